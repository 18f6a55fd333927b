import PyProof.Rows.All
import Wide.All
import OpenK.AllK
import Wide.FinOn
import HandS.ForMost
import HandS.IsInst
import HandS.Style
import HandS.Flow
import HandS.Exc
import HandS.TryOnly
import HandS.ExcOwn
import HandS.WordsExc
import HandS.WideBits
import HandS.Wide
import HandS.TupAny
import HandS.Walk
import HandS.ExcIs
import HandS.RaiseMore
import HandS.TupMul
import KE.KBits
import HandS.Zip
import HandS.Deep
import HandS.More
import HandS.SetFor
import HandS.FStrTup
import HandS.Ends
import PyProof.ReprRoads
import PyProof.FitsInt
import PyProof.CallFns
import HandS.Text
import HandS.StrMore
import HandS.RevRange
import KE.DataEq
import HandS.Flt
import HandS.Steps
import KE.GoesEnum
import HandS.Defaults
import PyProof.StrOps2
import PySem.Challenge.RW_surewire_k70_whole_stream
set_option Elab.async false
set_option linter.all false
set_option maxRecDepth 100000
set_option maxHeartbeats 2000000
/-! ## the data layer: what a reading gives, told by plain data; what stands is told by slots -/
namespace DL
open PySem L2

/-- plain data -/
inductive D where
  | non | bl (b : Bool) | int (i : Int) | str (x : Str) | ty (n : String) | ref (a : Addr)
  | tup (l : List D) | lst (l : List D) | scr (l : List D)
  | dic (l : List (Key × D)) | dit (l : List (List Key × D))
  | obj (C : Addr) (fs : List (Str × D))
  | exc (C : Addr)
/-- what one owned object holds -/
inductive OB where
  | lst (l : List D) | dic (l : List (Key × D)) | dit (l : List (List Key × D)) | obj (C : Addr) (fs : List (Str × D))
def OB.d : OB → D
  | .lst l => .lst l
  | .dic l => .dic l
  | .dit l => .dit l
  | .obj C fs => .obj C fs
/-- what is known of a slot -/
inductive EV where
  | any | val (d : D) | own (o : OB)
abbrev Env := List EV

def Ex (H H' : Hp) : Prop := ∀ a o, H a = some o → H' a = some o
theorem Ex.refl (H : Hp) : Ex H H := fun _ _ h => h
theorem Ex.trans {H H1 H2 : Hp} (a : Ex H H1) (b : Ex H1 H2) : Ex H H2 := fun x o h => b x o (a x o h)
theorem Ex.new {H : Hp} {p : Addr} {o : HO} (h : H p = none) : Ex H (upd H p o) := fun a u e => by
  rw [upd_ne (ne_of_none e h)]; exact e
theorem Ex.back {H H' : Hp} {p : Addr} (e : Ex H H') (h : H' p = none) : H p = none := by
  cases h1 : H p with
  | none => rfl
  | some o => rw [e p o h1] at h; cases h
theorem Ex.both {F H : Hp} {p : Addr} {o : HO} (e : Ex F H) : Ex (upd F p o) (upd H p o) := fun a u h => by
  by_cases q : a = p
  · subst q; rw [upd_same] at h ⊢; exact h
  · rw [upd_ne q] at h ⊢; exact e a u h
theorem Ex.right {F H : Hp} {p : Addr} {o : HO} (e : Ex F H) (h : F p = none) : Ex F (upd H p o) := fun a u q => by
  rw [upd_ne (ne_of_none q h)]; exact e a u q
theorem Ex.left {F H : Hp} {p : Addr} {o : HO} (e : Ex F H) (h : H p = some o) : Ex (upd F p o) H := fun a u q => by
  by_cases z : a = p
  · subst z; rw [upd_same] at q; rw [h]; exact q
  · rw [upd_ne z] at q; exact e a u q
theorem Ex.rd {H H' : Hp} {a : Addr} {u : HO} (e : Ex H H') (h : Rd H a u) : Rd H' a u := by
  rcases h with h | ⟨o, h⟩
  · exact Or.inl (e a _ h)
  · exact Or.inr ⟨o, e a _ h⟩
theorem Ex.l {K : PySem.W.Frag} {H H' : Hp} {a : Addr} {xs : List V} (e : Ex H H') (h : SqL K H a xs) : SqL K H' a xs := by
  rcases h with h | h
  · exact Or.inl (e.rd h)
  · exact Or.inr h
theorem Ex.t {K : PySem.W.Frag} {H H' : Hp} {a : Addr} {xs : List V} (e : Ex H H') (h : SqT K H a xs) : SqT K H' a xs := by
  rcases h with h | h
  · exact Or.inl (e.rd h)
  · exact Or.inr h

/-- an exception of the class at C, caught and kept -/
def ExK (C a : Addr) : HO := .ext fun h => ∃ (oe : Obj) (vs : Array Value), h.get? a = some oe ∧ Zc (.ref C) none oe ∧ oe.data = .fields vs
mutual
/-- the value v is the data d, all of it standing in F -/
inductive Rep (K : PySem.W.Frag) (F : Hp) : V → D → Prop
  | non : Rep K F .non .non
  | bl (b : Bool) : Rep K F (.bl b) (.bl b)
  | int (i : Int) : Rep K F (.int i) (.int i)
  | str (x : Str) : Rep K F (.str x) (.str x)
  | ty (n : String) : Rep K F (.ty n) (.ty n)
  | ref (a : Addr) : Rep K F (.ref a) (.ref a)
  | tup {a : Addr} {vs : List V} {l : List D} : SqT K F a vs → RepL K F vs l → Rep K F (.ref a) (.tup l)
  | lst {a : Addr} {vs : List V} {l : List D} : F a = some (.lst vs) → RepL K F vs l → Rep K F (.ref a) (.lst l)
  | scr {a : Addr} {vs : List V} {l : List D} : SqL K F a vs → RepL K F vs l → Rep K F (.ref a) (.scr l)
  | dic {a : Addr} {ks : List Key} {vs : List V} {ds : List D} : F a = some (.dK (ks.zip vs)) → ks.length = ds.length → RepL K F vs ds → Rep K F (.ref a) (.dic (ks.zip ds))
  | dit {a : Addr} {ks : List (List Key)} {vs : List V} {ds : List D} : F a = some (.dT (ks.zip vs)) → ks.length = ds.length → RepL K F vs ds → Rep K F (.ref a) (.dit (ks.zip ds))
  | obj {a C dx : Addr} {ks : List Str} {vs : List V} {ds : List D} : F a = some (.ins C dx (ks.zip vs)) → ks.length = ds.length → RepL K F vs ds → Rep K F (.ref a) (.obj C (ks.zip ds))
  | exc {a C : Addr} : F a = some (ExK C a) → Rep K F (.ref a) (.exc C)
inductive RepL (K : PySem.W.Frag) (F : Hp) : List V → List D → Prop
  | nil : RepL K F [] []
  | cons {v : V} {vs : List V} {d : D} {ds : List D} : Rep K F v d → RepL K F vs ds → RepL K F (v :: vs) (d :: ds)
end
section
variable {K : PySem.W.Frag} {F F' : Hp}
mutual
theorem Rep.mono (e : Ex F F') : ∀ {v : V} {d : D}, Rep K F v d → Rep K F' v d
  | _, _, .non => .non
  | _, _, .bl b => .bl b
  | _, _, .int i => .int i
  | _, _, .str x => .str x
  | _, _, .ty n => .ty n
  | _, _, .ref a => .ref a
  | _, _, .tup h r => .tup (e.t h) (RepL.mono e r)
  | _, _, .lst h r => .lst (e _ _ h) (RepL.mono e r)
  | _, _, .scr h r => .scr (e.l h) (RepL.mono e r)
  | _, _, .dic h l r => .dic (e _ _ h) l (RepL.mono e r)
  | _, _, .dit h l r => .dit (e _ _ h) l (RepL.mono e r)
  | _, _, .obj h l r => .obj (e _ _ h) l (RepL.mono e r)
  | _, _, .exc h => .exc (e _ _ h)
theorem RepL.mono (e : Ex F F') : ∀ {vs : List V} {ds : List D}, RepL K F vs ds → RepL K F' vs ds
  | _, _, .nil => .nil
  | _, _, .cons h r => .cons (Rep.mono e h) (RepL.mono e r)
end
theorem RepL.length : ∀ {vs : List V} {ds : List D}, RepL K F vs ds → vs.length = ds.length
  | _, _, .nil => rfl
  | _, _, .cons _ r => by rw [List.length_cons, List.length_cons, r.length]
theorem RepL.get : ∀ {vs : List V} {ds : List D} {i : Nat} {d : D}, RepL K F vs ds → ds[i]? = some d → ∃ v, vs[i]? = some v ∧ Rep K F v d
  | _, _, _, _, .nil, h => by simp at h
  | _, _, 0, _, .cons h _, e => by simp at e; subst e; exact ⟨_, rfl, h⟩
  | _, _, i + 1, _, .cons _ r, e => by
    obtain ⟨v, h1, h2⟩ := RepL.get (i := i) r (by simpa using e)
    exact ⟨v, by simpa using h1, h2⟩
theorem RepL.append : ∀ {vs ws : List V} {ds es : List D}, RepL K F vs ds → RepL K F ws es → RepL K F (vs ++ ws) (ds ++ es)
  | _, _, _, _, .nil, s => s
  | _, _, _, _, .cons h r, s => .cons h (RepL.append r s)
theorem RepL.take : ∀ {vs : List V} {ds : List D} (n : Nat), RepL K F vs ds → RepL K F (vs.take n) (ds.take n)
  | _, _, 0, _ => .nil
  | _, _, _ + 1, .nil => .nil
  | _, _, n + 1, .cons h r => .cons h (RepL.take n r)
theorem RepL.drop : ∀ {vs : List V} {ds : List D} (n : Nat), RepL K F vs ds → RepL K F (vs.drop n) (ds.drop n)
  | _, _, 0, r => r
  | _, _, _ + 1, .nil => .nil
  | _, _, n + 1, .cons _ r => RepL.drop n r
theorem RepL.set {v : V} {d : D} (h : Rep K F v d) : ∀ {vs : List V} {ds : List D} (n : Nat), RepL K F vs ds → RepL K F (vs.set n v) (ds.set n d)
  | _, _, _, .nil => .nil
  | _, _, 0, .cons _ r => .cons h r
  | _, _, n + 1, .cons q r => .cons q (RepL.set h n r)
theorem RepL.reverse : ∀ {vs : List V} {ds : List D}, RepL K F vs ds → RepL K F vs.reverse ds.reverse
  | _, _, .nil => .nil
  | _, _, .cons h r => by
    rw [List.reverse_cons, List.reverse_cons]
    exact (RepL.reverse r).append (.cons h .nil)
/-- ints, truths, texts: the values are those of the data -/
theorem RepL.ints : ∀ {vs : List V} {ns : List Int}, RepL K F vs (ns.map D.int) → vs = ns.map V.int
  | _, [], h => by cases h; rfl
  | _, n :: r, h => by
    cases h with
    | cons q t => cases q; rw [RepL.ints t]; rfl
theorem RepL.bools : ∀ {vs : List V} {ns : List Bool}, RepL K F vs (ns.map D.bl) → vs = ns.map V.bl
  | _, [], h => by cases h; rfl
  | _, n :: r, h => by
    cases h with
    | cons q t => cases q; rw [RepL.bools t]; rfl
theorem RepL.of_ints : ∀ {ns : List Int}, RepL K F (ns.map V.int) (ns.map D.int)
  | [] => .nil
  | n :: _ => .cons (.int n) RepL.of_ints
/-- data that no heap is asked for -/
def flat : D → Bool
  | .non | .bl _ | .int _ | .str _ | .ty _ | .ref _ => true
  | _ => false
theorem Rep.flat {v : V} {d : D} (h : Rep K F v d) (f : flat d = true) : Rep K F' v d := by
  cases h <;> first | (cases f; done) | constructor
theorem RepL.flat : ∀ {vs : List V} {ds : List D}, RepL K F vs ds → ds.all DL.flat = true → RepL K F' vs ds
  | _, _, .nil, _ => .nil
  | _, _, .cons h r, f => by
    rw [List.all_cons, Bool.and_eq_true] at f
    exact .cons (h.flat f.1) (RepL.flat r f.2)
end

/-- the owned object at a holds o; its parts stand in F -/
def ORep (K : PySem.W.Frag) (F H : Hp) (a : Addr) : OB → Prop
  | .lst l => ∃ vs, H a = some (.lst vs) ∧ RepL K F vs l
  | .dic l => ∃ ks vs ds, H a = some (.dK (List.zip ks vs)) ∧ List.length ks = List.length ds ∧ RepL K F vs ds ∧ l = ks.zip ds
  | .dit l => ∃ ks vs ds, H a = some (.dT (List.zip ks vs)) ∧ List.length ks = List.length ds ∧ RepL K F vs ds ∧ l = ks.zip ds
  | .obj C fs => ∃ dx ks vs ds, H a = some (.ins C dx (List.zip ks vs)) ∧ List.length ks = List.length ds ∧ RepL K F vs ds ∧ fs = ks.zip ds
section
variable {K : PySem.W.Frag} {F F' H H' : Hp} {a : Addr} {o : OB}
theorem ORep.mono (h : ORep K F H a o) (e : Ex F F') (k : ∀ u, H a = some u → H' a = some u) : ORep K F' H' a o := by
  cases o with
  | lst l => obtain ⟨vs, x, r⟩ := h; exact ⟨vs, k _ x, r.mono e⟩
  | dic l => obtain ⟨ks, vs, ds, x, z, r, q⟩ := h; exact ⟨ks, vs, ds, k _ x, z, r.mono e, q⟩
  | dit l => obtain ⟨ks, vs, ds, x, z, r, q⟩ := h; exact ⟨ks, vs, ds, k _ x, z, r.mono e, q⟩
  | obj C fs => obtain ⟨dx, ks, vs, ds, x, z, r, q⟩ := h; exact ⟨dx, ks, vs, ds, k _ x, z, r.mono e, q⟩
theorem ORep.ho (h : ORep K F H a o) : ∃ u, H a = some u := by
  cases o with
  | lst l => obtain ⟨vs, x, r⟩ := h; exact ⟨_, x⟩
  | dic l => obtain ⟨ks, vs, ds, x, _⟩ := h; exact ⟨_, x⟩
  | dit l => obtain ⟨ks, vs, ds, x, _⟩ := h; exact ⟨_, x⟩
  | obj C fs => obtain ⟨dx, ks, vs, ds, x, _⟩ := h; exact ⟨_, x⟩
/-- an owned object, given up: from now on it stands -/
theorem ORep.give (h : ORep K F H a o) (n : F a = none) : ∃ u, H a = some u ∧ Rep K (upd F a u) (.ref a) o.d := by
  cases o with
  | lst l => obtain ⟨vs, x, r⟩ := h; exact ⟨_, x, .lst upd_same (r.mono (Ex.new n))⟩
  | dic l => obtain ⟨ks, vs, ds, x, z, r, q⟩ := h; subst q; exact ⟨_, x, .dic upd_same z (r.mono (Ex.new n))⟩
  | dit l => obtain ⟨ks, vs, ds, x, z, r, q⟩ := h; subst q; exact ⟨_, x, .dit upd_same z (r.mono (Ex.new n))⟩
  | obj C fs => obtain ⟨dx, ks, vs, ds, x, z, r, q⟩ := h; subst q; exact ⟨_, x, .obj upd_same z (r.mono (Ex.new n))⟩
end

/-- what grows between two moments: what stands (F) and all that is tracked (H) -/
structure Grow (F0 H0 F H : Hp) : Prop where
  gf : Ex F0 F
  gh : Ex H0 H
  fh : Ex F H
  gn : ∀ a, F a ≠ none → F0 a ≠ none ∨ H0 a = none
section
variable {F0 H0 F1 H1 F H : Hp}
theorem Grow.refl (e : Ex F H) : Grow F H F H := ⟨Ex.refl _, Ex.refl _, e, fun _ h => .inl h⟩
theorem Grow.trans (a : Grow F0 H0 F1 H1) (b : Grow F1 H1 F H) : Grow F0 H0 F H := ⟨a.gf.trans b.gf, a.gh.trans b.gh, b.fh, fun x h => by
  rcases b.gn x h with q | q
  · exact a.gn x q
  · exact .inr (a.gh.back q)⟩
/-- a new object, standing -/
theorem Grow.new {p : Addr} {o : HO} (g : Grow F0 H0 F H) (n : H p = none) : Grow F0 H0 (upd F p o) (upd H p o) := ⟨g.gf.trans (Ex.new (g.fh.back n)), g.gh.trans (Ex.new n), g.fh.both, fun x h => by
  by_cases q : x = p
  · subst q; exact .inr (g.gh.back n)
  · rw [upd_ne q] at h; exact g.gn x h⟩
/-- an owned new one is given up -/
theorem Grow.give {p : Addr} {o : HO} (g : Grow F0 H0 F H) (n : F p = none) (n0 : H0 p = none) (e : H p = some o) : Grow F0 H0 (upd F p o) H := ⟨g.gf.trans (Ex.new n), g.gh, g.fh.left e, fun x h => by
  by_cases q : x = p
  · subst q; exact .inr n0
  · rw [upd_ne q] at h; exact g.gn x h⟩
end

/-- where a def begins: what stands, what is tracked, which slots hold the objects handed in to be changed -/
structure Bs where
  F : Hp
  H : Hp
  fx : Nat → Option Addr
/-- the slots as they are known; oa i the address of what slot i owns -/
structure Sig (K : PySem.W.Frag) (b : Bs) (F : Hp) (oa : Nat → Addr) (σ : L2.St) (H : Hp) (env : Env) : Prop where
  g : Grow b.F b.H F H
  len : σ.length = env.length
  val : ∀ (i : Nat) (d : D), env[i]? = some (EV.val d) → ∃ v : V, σ[i]? = some (some v) ∧ Rep K F v d
  own : ∀ (i : Nat) (o : OB), env[i]? = some (EV.own o) → σ[i]? = some (some (.ref (oa i))) ∧ F (oa i) = none ∧ b.H (oa i) = none ∧ ORep K F H (oa i) o
  dist : ∀ (i j : Nat) (o u : OB), env[i]? = some (EV.own o) → env[j]? = some (.own u) → oa i = oa j → i = j
  fix : ∀ (i : Nat) (a : Addr), b.fx i = some a → oa i = a ∧ H a ≠ none
section
variable {K : PySem.W.Frag} {b : Bs} {F F1 H H1 : Hp} {oa : Nat → Addr} {σ : L2.St} {env env' : Env} {i : Nat} {v : V} {d : D} {o : OB}
/-- what is owned is not there where nothing is -/
theorem Sig.ne (S : Sig K b F oa σ H env) {p : Addr} (n : H p = none) (e : env[i]? = some (.own o)) : oa i ≠ p := fun q => by
  obtain ⟨_, _, _, r⟩ := S.own i o e
  obtain ⟨u, hu⟩ := r.ho
  rw [q, n] at hu; cases hu
/-- more stands, all else as it was -/
theorem Sig.grow (S : Sig K b F oa σ H env) (g : Grow F H F1 H1) : Sig K b F1 oa σ H1 env where
  g := S.g.trans g
  len := S.len
  val := fun i d e => by
    obtain ⟨v, h1, h2⟩ := S.val i d e
    exact ⟨v, h1, h2.mono g.gf⟩
  own := fun i o e => by
    obtain ⟨h1, h2, h3, h4⟩ := S.own i o e
    refine ⟨h1, ?_, h3, h4.mono g.gf fun u q => g.gh _ _ q⟩
    cases q : F1 (oa i) with
    | none => rfl
    | some u =>
      rcases g.gn (oa i) (by rw [q]; simp) with z | z
      · exact absurd h2 z
      · obtain ⟨w, hw⟩ := h4.ho
        rw [z] at hw; cases hw
  dist := S.dist
  fix := fun i c e => by
    obtain ⟨h1, h2⟩ := S.fix i c e
    refine ⟨h1, fun z => ?_⟩
    exact h2 (g.gh.back z)
theorem Sig.new {p : Addr} {u : HO} (S : Sig K b F oa σ H env) (n : H p = none) : Sig K b (upd F p u) oa σ (upd H p u) env := S.grow ((Grow.refl S.g.fh).new n)
/-- slot i holds v -/
theorem Sig.set (S : Sig K b F oa σ H env) (r : Rep K F v d) : Sig K b F oa (σ.set i (some v)) H (env.set i (.val d)) where
  g := S.g
  len := by simp [S.len]
  val := fun j e h => by
    by_cases q : i = j
    · subst q
      rw [List.getElem?_set] at h
      rw [List.getElem?_set]
      have l := S.len
      split at h
      · split at h
        · cases h
          refine ⟨v, ?_, r⟩
          simp_all
        · cases h
      · rename_i z; exact absurd rfl z
    · rw [List.getElem?_set_ne q] at h
      rw [List.getElem?_set_ne q]
      exact S.val j e h
  own := fun j e h => by
    by_cases q : i = j
    · subst q
      rw [List.getElem?_set] at h
      split at h
      · split at h <;> cases h
      · rename_i z; exact absurd rfl z
    · rw [List.getElem?_set_ne q] at h
      rw [List.getElem?_set_ne q]
      exact S.own j e h
  dist := fun j k e u h1 h2 => by
    have t : ∀ (j : Nat) (e : OB), (env.set i (.val d))[j]? = some (.own e) → env[j]? = some (.own e) := fun j e h => by
      by_cases q : i = j
      · subst q
        rw [List.getElem?_set] at h
        split at h
        · split at h <;> cases h
        · rename_i z; exact absurd rfl z
      · rw [List.getElem?_set_ne q] at h; exact h
    exact S.dist j k e u (t _ _ h1) (t _ _ h2)
  fix := S.fix
/-- the slot of what is owned, given up -/
theorem Sig.give (S : Sig K b F oa σ H env) (e : env[i]? = some (.own o)) : ∃ F', Sig K b F' oa σ H (env.set i (.val o.d)) ∧ Ex F F' := by
  obtain ⟨h1, h2, h3, h4⟩ := S.own i o e
  obtain ⟨u, hu, r⟩ := h4.give h2
  refine ⟨upd F (oa i) u, ⟨S.g.give h2 h3 hu, by simp [S.len], fun j w h => ?_, fun j w h => ?_, fun j k w x p q z => ?_, S.fix⟩, Ex.new h2⟩
  · by_cases q : i = j
    · subst q
      rw [List.getElem?_set] at h
      split at h
      · split at h
        · cases h; exact ⟨_, h1, r⟩
        · cases h
      · rename_i z; exact absurd rfl z
    · rw [List.getElem?_set_ne q] at h
      obtain ⟨v, x, y⟩ := S.val j w h
      exact ⟨v, x, y.mono (Ex.new h2)⟩
  · by_cases q : i = j
    · subst q
      rw [List.getElem?_set] at h
      split at h
      · split at h <;> cases h
      · rename_i z; exact absurd rfl z
    · rw [List.getElem?_set_ne q] at h
      obtain ⟨x1, x2, x3, x4⟩ := S.own j w h
      refine ⟨x1, ?_, x3, x4.mono (Ex.new h2) fun _ y => y⟩
      rw [upd_ne fun z => q (S.dist j i w o h e z).symm]
      exact x2
  · have t : ∀ (j : Nat) (e : OB), (env.set i (.val o.d))[j]? = some (.own e) → env[j]? = some (.own e) := fun j e h => by
      by_cases q : i = j
      · subst q
        rw [List.getElem?_set] at h
        split at h
        · split at h <;> cases h
        · rename_i z; exact absurd rfl z
      · rw [List.getElem?_set_ne q] at h; exact h
    exact S.dist j k w x (t _ _ p) (t _ _ q) z
/-- less is known: every slot as it was, or not told -/
def Env.le : Env → Env → Prop
  | [], [] => True
  | a :: r, b :: s => (b = .any ∨ b = a) ∧ Env.le r s
  | _, _ => False
theorem Env.le.get : ∀ {env env' : Env} {i : Nat} {x : EV}, Env.le env env' → env'[i]? = some x → x = .any ∨ env[i]? = some x
  | [], [], _, _, _, h => by simp at h
  | _ :: _, _ :: _, 0, _, l, h => by
    simp at h; subst h
    rcases l.1 with q | q
    · exact .inl q
    · exact .inr (by rw [q]; rfl)
  | _ :: r, _ :: s, i + 1, _, l, h => by
    rcases Env.le.get (i := i) l.2 (by simpa using h) with q | q
    · exact .inl q
    · exact .inr (by simpa using q)
  | [], _ :: _, _, _, l, _ => l.elim
  | _ :: _, [], _, _, l, _ => l.elim
theorem Env.le.length : ∀ {env env' : Env}, Env.le env env' → env.length = env'.length
  | [], [], _ => rfl
  | _ :: _, _ :: _, l => by rw [List.length_cons, List.length_cons, Env.le.length l.2]
  | [], _ :: _, l => l.elim
  | _ :: _, [], l => l.elim
theorem Env.le.rfl : ∀ {env : Env}, Env.le env env
  | [] => trivial
  | _ :: _ => ⟨.inr (by rfl), Env.le.rfl⟩
theorem Sig.le (S : Sig K b F oa σ H env) (l : Env.le env env') : Sig K b F oa σ H env' where
  g := S.g
  len := by rw [S.len, l.length]
  val := fun i d e => by
    rcases l.get e with q | q
    · cases q
    · exact S.val i d q
  own := fun i o e => by
    rcases l.get e with q | q
    · cases q
    · exact S.own i o q
  dist := fun i j o u e f z => by
    rcases l.get e with q | q
    · cases q
    · rcases l.get f with p | p
      · cases p
      · exact S.dist i j o u q p z
  fix := S.fix
/-- a new one that no slot owns stands from now on -/
theorem Sig.stand {a : Addr} {u : HO} (S : Sig K b F oa σ H env) (n : F a = none) (n0 : b.H a = none) (ne : ∀ (j : Nat) (o : OB), env[j]? = some (.own o) → oa j ≠ a) (h : H a = some u) : Sig K b (upd F a u) oa σ H env where
  g := S.g.give n n0 h
  len := S.len
  val := fun i d e => by
    obtain ⟨v, h1, h2⟩ := S.val i d e
    exact ⟨v, h1, h2.mono (Ex.new n)⟩
  own := fun i o e => by
    obtain ⟨h1, h2, h3, h4⟩ := S.own i o e
    exact ⟨h1, by rw [upd_ne (ne i o e)]; exact h2, h3, h4.mono (Ex.new n) fun _ q => q⟩
  dist := S.dist
  fix := S.fix
end
end DL

namespace DL
open PySem L2

/-- what an expression gives: data that stands, or what a slot owns -/
inductive Res where
  | val (d : D) | slot (i : Nat)
def RR (K : PySem.W.Frag) (F : Hp) (oa : Nat → Addr) (v : V) : Res → Prop
  | .val d => Rep K F v d
  | .slot i => v = .ref (oa i)
/-- it reads as d -/
def Rd (env : Env) : Res → D → Prop
  | .val d, e => d = e
  | .slot i, e => ∃ o, env[i]? = some (.own o) ∧ o.d = e
section
variable {K : PySem.W.Frag} {b : Bs} {F F' H : Hp} {oa : Nat → Addr} {σ : L2.St} {env env' : Env} {v : V} {r : Res} {d : D} {l : List D}
theorem RR.mono (h : RR K F oa v r) (e : Ex F F') : RR K F' oa v r := by
  cases r with
  | val d => exact Rep.mono e h
  | slot i => exact h
theorem Rd.lst' (S : Sig K b F oa σ H env) (h : RR K F oa v r) (q : Rd env r (.lst l)) : ∃ a vs, v = .ref a ∧ H a = some (.lst vs) ∧ RepL K F vs l := by
  cases r with
  | val d =>
    cases (show d = .lst l from q)
    cases h with
    | lst x y => exact ⟨_, _, rfl, S.g.fh _ _ x, y⟩
  | slot i =>
    obtain ⟨o, e, z⟩ := q
    obtain ⟨_, _, _, x⟩ := S.own i o e
    cases o with
    | lst l' =>
      cases z
      obtain ⟨vs, x1, x2⟩ := x
      exact ⟨_, vs, h, x1, x2⟩
    | dic _ => cases z
    | dit _ => cases z
    | obj _ _ => cases z
theorem Rd.scr (S : Sig K b F oa σ H env) (h : RR K F oa v r) (q : Rd env r (.scr l)) : ∃ a vs, v = .ref a ∧ SqL K H a vs ∧ RepL K F vs l := by
  cases r with
  | val d =>
    cases (show d = .scr l from q)
    cases h with
    | scr x y => exact ⟨_, _, rfl, S.g.fh.l x, y⟩
  | slot i =>
    obtain ⟨o, e, z⟩ := q
    cases o <;> cases z
/-- a list to be read: one of the call's own, or the script -/
def RdL (env : Env) (r : Res) (k : List D) : Prop := Rd env r (.lst k) ∨ Rd env r (.scr k)
theorem RdL.g (S : Sig K b F oa σ H env) (h : RR K F oa v r) (q : RdL env r l) : ∃ a vs, v = .ref a ∧ SqL K H a vs ∧ RepL K F vs l := by
  rcases q with q | q
  · obtain ⟨a, vs, e, s, p⟩ := Rd.lst' S h q
    exact ⟨a, vs, e, .inl (.inl s), p⟩
  · exact Rd.scr S h q
theorem Rd.tup (S : Sig K b F oa σ H env) (h : RR K F oa v r) (q : Rd env r (.tup l)) : ∃ a vs, v = .ref a ∧ SqT K H a vs ∧ RepL K F vs l := by
  cases r with
  | val d =>
    cases (show d = .tup l from q)
    cases h with
    | tup x y => exact ⟨_, _, rfl, S.g.fh.t x, y⟩
  | slot i =>
    obtain ⟨o, e, z⟩ := q
    cases o <;> cases z
theorem Rd.flat (h : RR K F oa v r) (q : Rd env r d) (f : flat d = true) : Rep K F v d := by
  cases r with
  | val e => cases (show e = d from q); exact h
  | slot i =>
    obtain ⟨o, e, z⟩ := q
    cases o <;> (subst z; cases f)
/-- read as it stands in the whole heap -/
theorem Rd.rep (S : Sig K b F oa σ H env) (h : RR K F oa v r) (q : Rd env r d) : Rep K H v d := by
  cases r with
  | val e => cases (show e = d from q); exact Rep.mono S.g.fh h
  | slot i =>
    obtain ⟨o, e, z⟩ := q
    subst z
    cases (show v = .ref (oa i) from h)
    obtain ⟨_, _, _, x⟩ := S.own i o e
    cases o with
    | lst l' => obtain ⟨vs, x1, x2⟩ := x; exact .lst x1 (x2.mono S.g.fh)
    | dic l' => obtain ⟨ks, vs, ds, x1, x2, x3, x4⟩ := x; subst x4; exact .dic x1 x2 (x3.mono S.g.fh)
    | dit l' => obtain ⟨ks, vs, ds, x1, x2, x3, x4⟩ := x; subst x4; exact .dit x1 x2 (x3.mono S.g.fh)
    | obj C fs => obtain ⟨dx, ks, vs, ds, x1, x2, x3, x4⟩ := x; subst x4; exact .obj x1 x2 (x3.mono S.g.fh)
end

/-- what a step leaves: what stands stands; what no slot owns is as it was -/
structure Stp (oa : Nat → Addr) (env : Env) (F H : Hp) (env' : Env) (F' H' : Hp) : Prop where
  ff : Ex F F'
  kp : ∀ a u, H a = some u → (∀ (j : Nat) (o : OB), env[j]? = some (.own o) → oa j ≠ a) → H' a = some u
  gn : ∀ a, F' a ≠ none → F a ≠ none ∨ H a = none
  th : ∀ a, H a ≠ none → H' a ≠ none
  sub : ∀ (j : Nat) (o : OB), env'[j]? = some (.own o) → ∃ o', env[j]? = some (.own o')
section
variable {K : PySem.W.Frag} {b : Bs} {F F1 F2 H H1 H2 : Hp} {oa : Nat → Addr} {σ : L2.St} {env e1 e2 : Env} {p : Addr} {u : HO}
theorem Stp.refl : Stp oa env F H env F H := ⟨Ex.refl _, fun _ _ h _ => h, fun _ h => .inl h, fun _ h => h, fun j o h => ⟨o, h⟩⟩
theorem Stp.trans (x : Stp oa env F H e1 F1 H1) (y : Stp oa e1 F1 H1 e2 F2 H2) : Stp oa env F H e2 F2 H2 := ⟨x.ff.trans y.ff, fun a u h n => y.kp a u (x.kp a u h n) fun j o e => by
    obtain ⟨o', e'⟩ := x.sub j o e
    exact n j o' e', fun a h => by
    rcases y.gn a h with z | z
    · exact x.gn a z
    · refine .inr ?_
      cases w : H a with
      | none => rfl
      | some v => exact absurd z (x.th a (by rw [w]; simp)), fun a h => y.th a (x.th a h), fun j o e => by
    obtain ⟨o', e'⟩ := y.sub j o e
    exact x.sub j o' e'⟩
theorem Stp.new (n : H p = none) (nf : F p = none) : Stp oa env F H env (upd F p u) (upd H p u) := ⟨Ex.new nf, fun a v h _ => Ex.new n a v h, fun a h => by
    by_cases q : a = p
    · subst q; exact .inr n
    · rw [upd_ne q] at h; exact .inl h, fun a h z => h ((Ex.new n).back z), fun j o e => ⟨o, e⟩⟩
theorem Stp.newH (n : H p = none) : Stp oa env F H env F (upd H p u) := ⟨Ex.refl _, fun a v h _ => Ex.new n a v h, fun a h => .inl h, fun a h z => h ((Ex.new n).back z), fun j o e => ⟨o, e⟩⟩
theorem Stp.none (x : Stp oa env F H e1 F1 H1) (n : H1 p = none) : H p = none := by
  cases w : H p with
  | none => rfl
  | some v => exact absurd n (x.th p (by rw [w]; simp))
end

def Ev (K : PySem.W.Frag) (te : TE) (env : Env) (r : Res) (env' : Env) : Prop := ∀ (b : Bs) (F : Hp) (oa : Nat → Addr) (σ : L2.St) (H : Hp), Sig K b F oa σ H env → ∀ Q : VK,
  (∀ v F' H', Sig K b F' oa σ H' env' → Stp oa env F H env' F' H' → RR K F' oa v r → Q v H') → te σ H Q
/-- a new object that nobody has yet -/
def NewAt (K : PySem.W.Frag) (b : Bs) (F : Hp) (oa : Nat → Addr) (H : Hp) (env : Env) (a : Addr) (o : OB) : Prop :=
  F a = none ∧ b.H a = none ∧ (∀ (j : Nat) (u : OB), env[j]? = some (.own u) → oa j ≠ a) ∧ (∀ j, b.fx j ≠ some a) ∧ ORep K F H a o
def EvN (K : PySem.W.Frag) (te : TE) (env : Env) (o : OB) (env' : Env) : Prop := ∀ (b : Bs) (F : Hp) (oa : Nat → Addr) (σ : L2.St) (H : Hp), Sig K b F oa σ H env → ∀ Q : VK,
  (∀ a F' H', Sig K b F' oa σ H' env' → Stp oa env F H env' F' H' → H a = none → NewAt K b F' oa H' env' a o → Q (.ref a) H') → te σ H Q
def RRs (K : PySem.W.Frag) (F : Hp) (oa : Nat → Addr) : List V → List Res → Prop
  | [], [] => True
  | v :: vs, r :: rs => RR K F oa v r ∧ RRs K F oa vs rs
  | _, _ => False
theorem RRs.mono {K : PySem.W.Frag} {F F' : Hp} {oa : Nat → Addr} (e : Ex F F') : ∀ {vs : List V} {rs : List Res}, RRs K F oa vs rs → RRs K F' oa vs rs
  | [], [], _ => trivial
  | _ :: _, _ :: _, h => ⟨h.1.mono e, RRs.mono e h.2⟩
  | [], _ :: _, h => h.elim
  | _ :: _, [], h => h.elim
section
variable {K : PySem.W.Frag} {te ta tb tc : TE} {t u : TT} {env e1 e2 e3 : Env} {r r1 r2 : Res} {d : D} {o : OB} {i j : Nat} {n m : Int}
theorem Ev.give (h : EvN K te env o e1) : Ev K te env (.val o.d) e1 := fun b F oa σ H S Q k => h b F oa σ H S Q fun a F' H' S' e na ⟨n, n0, ne, _, x⟩ => by
  obtain ⟨u, hu, r⟩ := x.give n
  refine k _ _ _ (S'.stand n n0 ne hu) ⟨e.ff.trans (Ex.new n), e.kp, fun c h => ?_, e.th, e.sub⟩ r
  by_cases q : c = a
  · subst q; exact .inr na
  · rw [upd_ne q] at h; exact e.gn c h
end
end DL

namespace DL
open PySem L2

/-! ### operators by all that they serve -/
theorem OpR.or {X : Cx} {f : Value → Value → Sem Value} {r1 r2 : R2} (h1 : OpR X f r1) (h2 : OpR X f r2) : OpR X f (fun x y H Q => r1 x y H Q ∨ r2 x y H Q) := by
  intro pins s σ H x y v u Q I rx ry h
  rcases h with h | h
  · exact h1 pins s σ H x y v u Q I rx ry h
  · exact h2 pins s σ H x y v u Q I rx ry h
theorem CallR.or {X : Cx} {f : Value} {r1 r2 : List V → Hp → VK → Prop} (h1 : CallR X f r1) (h2 : CallR X f r2) : CallR X f (fun xs H Q => r1 xs H Q ∨ r2 xs H Q) := by
  intro pins s σ H xs us Q I r h
  rcases h with h | h
  · exact h1 pins s σ H xs us Q I r h
  · exact h2 pins s σ H xs us Q I r h
def rS : R2 := fun x y H Q => ∃ i j, x = .str i ∧ y = .str j ∧ i.length + j.length ≤ sizeLine ∧ Q (.str (i ++ j)) H
def rAddU (K : PySem.W.Frag) : R2 := fun x y H Q => rI0 (fun i j => .int (i + j)) x y H Q ∨ (rS x y H Q ∨ (rCatA K x y H Q ∨ rCat x y H Q))
theorem op_addU {X : Cx} {K : PySem.W.Frag} (e : X.K = K := by rfl) : OpR X (binaryOp .Add) (rAddU K) := by subst e; exact OpR.or op_add (OpR.or op_add_str (OpR.or op_catA op_cat))
def rSubU : R2 := rI0 fun i j => .int (i - j)
theorem op_subU {X : Cx} : OpR X (binaryOp .Sub) rSubU := op_sub
def rMulU : R2 := fun x y H Q => rI CMul (fun i j => .int (i * j)) x y H Q ∨ (rI CMulX (fun i j => .int (i * j)) x y H Q ∨ rRep x y H Q)
theorem op_mulU {X : Cx} : OpR X (binaryOp .Mult) rMulU := OpR.or op_mul (OpR.or op_mulX op_rep)
def rDivU : R2 := rI CDivW fun i j => .int (i / j)
theorem op_divU {X : Cx} : OpR X (binaryOp .FloorDiv) rDivU := op_fdivW
def rModU : R2 := rI (fun _ j => 0 < j) fun i j => .int (i % j)
theorem op_modU {X : Cx} : OpR X (binaryOp .Mod) rModU := op_mod
def rPowU : R2 := rI CPow fun i j => .int (i ^ j.toNat)
theorem op_powU {X : Cx} : OpR X (binaryOp .Pow) rPowU := op_pow
def rShlU : R2 := rI CShl fun i j => .int (i * 2 ^ j.toNat)
theorem op_shlU {X : Cx} : OpR X (binaryOp .LShift) rShlU := op_shlW
def rShrU : R2 := rI (fun _ j => 0 ≤ j) fun i j => .int (i / 2 ^ j.toNat)
theorem op_shrU {X : Cx} : OpR X (binaryOp .RShift) rShrU := op_shr
def rAndU : R2 := rI0 fun i j => .int (Builtin.bitAnd i j)
theorem op_andU {X : Cx} : OpR X (binaryOp .BitAnd) rAndU := op_and
def rOrU : R2 := rI0 fun i j => .int (Builtin.bitOr i j)
theorem op_orU {X : Cx} : OpR X (binaryOp .BitOr) rOrU := op_or
def rXorU : R2 := rI0 fun i j => .int (Builtin.bitXor i j)
theorem op_xorU {X : Cx} : OpR X (binaryOp .BitXor) rXorU := op_xor
def rLtU : R2 := rI0 fun i j => .bl (decide (i < j))
def rLeU : R2 := rI0 fun i j => .bl (decide (i ≤ j))
def rGtU : R2 := rI0 fun i j => .bl (decide (j < i))
def rGeU : R2 := rI0 fun i j => .bl (decide (j ≤ i))
theorem op_ltU {X : Cx} : OpR X (compareOp .Lt) rLtU := op_lt
theorem op_leU {X : Cx} : OpR X (compareOp .LtE) rLeU := op_le
theorem op_gtU {X : Cx} : OpR X (compareOp .Gt) rGtU := op_gt
theorem op_geU {X : Cx} : OpR X (compareOp .GtE) rGeU := op_ge
def rIsNn : R2 := fun x y H Q => y = .non ∧ Q (.bl (decide (x = .non))) H
def rNotNn : R2 := fun x y H Q => y = .non ∧ Q (.bl (!decide (x = .non))) H
def rIsU : R2 := fun x y H Q => rIsNn x y H Q ∨ rIsB x y H Q
def rNotU : R2 := fun x y H Q => rNotNn x y H Q ∨ rNotB x y H Q
theorem op_isU {X : Cx} : OpR X (compareOp .Is) rIsU := OpR.or op_isN op_isBl
theorem op_notU {X : Cx} : OpR X (compareOp .IsNot) rNotU := OpR.or op_notN op_notBl
def rLen1 (K : PySem.W.Frag) : List V → Hp → VK → Prop := fun xs H Q => ∃ x n, xs = [x] ∧ LenV K x H n ∧ Q (.int n) H
def rLen2 : List V → Hp → VK → Prop := fun xs H Q => ∃ a kvs, xs = [V.ref a] ∧ H a = some (.dK kvs) ∧ Q (.int kvs.length) H
def rLenU (K : PySem.W.Frag) : List V → Hp → VK → Prop := fun xs H Q => rLen1 K xs H Q ∨ rLen2 xs H Q
theorem call_lenU {X : Cx} {K : PySem.W.Frag} (e : X.K = K := by rfl) : CallR X (.builtin "len") (rLenU K) := by subst e; exact CallR.or call_len call_lenD
theorem call_allU {X : Cx} {K : PySem.W.Frag} (hc : X.calm = true) (e : X.K = K := by rfl) : CallR X (.builtin "all") (rAll K) := by subst e; exact cr_all hc
theorem call_sumU {X : Cx} {K : PySem.W.Frag} (hc : X.calm = true) (e : X.K = K := by rfl) : CallR X (.builtin "sum") (rSum K) := by subst e; exact cr_sum hc
theorem ix_U {X : Cx} {K : PySem.W.Frag} (e : X.K = K := by rfl) : IxR X (rIx K) := by subst e; exact ix_seq
def rAbs : List V → Hp → VK → Prop := fun xs H Q => ∃ i, xs = [.int i] ∧ Q (.int (if i < 0 then -i else i)) H
theorem call_absU {X : Cx} : CallR X (.builtin "abs") rAbs := call_abs
def rMax2 : List V → Hp → VK → Prop := fun xs H Q => ∃ i j, xs = [.int i, .int j] ∧ Q (.int (if j > i then j else i)) H
def rMin2 : List V → Hp → VK → Prop := fun xs H Q => ∃ i j, xs = [.int i, .int j] ∧ Q (.int (if j < i then j else i)) H
theorem call_max2U {X : Cx} (hc : X.calm = true) : CallR X (.builtin "max") rMax2 := call_max2 hc
theorem call_min2U {X : Cx} (hc : X.calm = true) : CallR X (.builtin "min") rMin2 := call_min2 hc
def rInt1 : List V → Hp → VK → Prop := fun xs H Q => (∃ i, xs = [.int i] ∧ Q (.int i) H) ∨ ∃ k, xs = [.bl k] ∧ Q (.int (if k then 1 else 0)) H
theorem call_intU {X : Cx} : CallR X (.type "int") rInt1 := call_int1
def rListOf (K : PySem.W.Frag) : List V → Hp → VK → Prop := fun xs H Q => ∃ p ys, xs = [.ref p] ∧ (SqL K H p ys ∨ SqT K H p ys) ∧ ∀ l, H l = none → Q (.ref l) (upd H l (.lst ys))
theorem call_listU {X : Cx} {K : PySem.W.Frag} (e : X.K = K := by rfl) : CallR X (.type "list") (rListOf K) := by subst e; exact call_list_of
def rTupleOf (K : PySem.W.Frag) : List V → Hp → VK → Prop := fun xs H Q => ∃ p ys, xs = [.ref p] ∧ ((SqL K H p ys ∧ ∀ l, H l = none → Q (.ref l) (upd H l (.tup ys))) ∨ (SqT K H p ys ∧ Q (.ref p) H))
theorem call_tupleU {X : Cx} {K : PySem.W.Frag} (e : X.K = K := by rfl) : CallR X (.type "tuple") (rTupleOf K) := by subst e; exact call_tuple_of
def rSlU (K : PySem.W.Frag) : V → Option Int → Option Int → Hp → VK → Prop := fun x lo hi H Q => rSlL K x lo hi H Q ∨ (rSlA K x lo hi H Q ∨ rSlS x lo hi H Q)
theorem SlR.or {X : Cx} {r1 r2 : V → Option Int → Option Int → Hp → VK → Prop} (h1 : SlR X r1) (h2 : SlR X r2) : SlR X (fun x l u H Q => r1 x l u H Q ∨ r2 x l u H Q) := by
  intro pins s σ H x v vl vu l u sl Q I rx hs pl pu h
  rcases h with h | h
  · exact h1 pins s σ H x v vl vu l u sl Q I rx hs pl pu h
  · exact h2 pins s σ H x v vl vu l u sl Q I rx hs pl pu h
theorem sl_U {X : Cx} {K : PySem.W.Frag} (e : X.K = K := by rfl) : SlR X (rSlU K) := by subst e; exact SlR.or sl_list (SlR.or sl_tupA sl_str)

/-! ### PyData of data -/
mutual
def py : D → Option PyData
  | .non => some .none
  | .bl b => some (.bool b)
  | .int i => some (.int i)
  | .str x => some (.str x)
  | .tup l => (pys l).map .tuple
  | .lst l => (pys l).map .list
  | .ty _ => none
  | .scr _ => none
  | .ref _ => none
  | .dic _ => none
  | .dit _ => none
  | .obj _ _ => none
  | .exc _ => none
def pys : List D → Option (List PyData)
  | [] => some []
  | d :: r => match py d, pys r with
    | some x, some y => some (x :: y)
    | _, _ => none
end
mutual
theorem Rep.dp {K : PySem.W.Frag} {H : Hp} : ∀ {v : V} {d : D} {p : PyData}, Rep K H v d → py d = some p → Dp K H v p
  | _, _, _, .non, e => by unfold py at e; cases e; exact .non
  | _, _, _, .bl b, e => by unfold py at e; cases e; exact .bl b
  | _, _, _, .int b, e => by unfold py at e; cases e; exact .int b
  | _, _, _, .str b, e => by unfold py at e; cases e; exact .str b
  | _, _, _, .tup (l := l) h r, e => by
    unfold py at e
    cases q : pys l with
    | none => rw [q] at e; cases e
    | some x => rw [q] at e; cases e; exact .tup h (RepL.dp r q)
  | _, _, _, .lst (l := l) h r, e => by
    unfold py at e
    cases q : pys l with
    | none => rw [q] at e; cases e
    | some x => rw [q] at e; cases e; exact .lst (.inl (.inl h)) (RepL.dp r q)
  | _, _, _, .ty _, e => by unfold py at e; cases e
  | _, _, _, .scr _ _, e => by unfold py at e; cases e
  | _, _, _, .ref _, e => by unfold py at e; cases e
  | _, _, _, .dic _ _ _, e => by unfold py at e; cases e
  | _, _, _, .dit _ _ _, e => by unfold py at e; cases e
  | _, _, _, .obj _ _ _, e => by unfold py at e; cases e
  | _, _, _, .exc _, e => by unfold py at e; cases e
theorem RepL.dp {K : PySem.W.Frag} {H : Hp} : ∀ {vs : List V} {ds : List D} {ps : List PyData}, RepL K H vs ds → pys ds = some ps → DpAll K H vs ps
  | _, _, _, .nil, e => by unfold pys at e; cases e; exact .nil
  | _, _, _, .cons (d := d) (ds := ds) h r, e => by
    unfold pys at e
    cases q1 : py d with
    | none => rw [q1] at e; cases e
    | some x =>
      cases q2 : pys ds with
      | none => rw [q1, q2] at e; cases e
      | some y => rw [q1, q2] at e; cases e; exact .cons (Rep.dp h q1) (RepL.dp r q2)
end
section
variable {K : PySem.W.Frag} {te ta tb tc : TE} {t u : TT} {env e1 e2 e3 : Env} {r r1 r2 : Res} {d d1 d2 : D} {o : OB} {i j : Int} {x y : Str} {c c1 c2 : Bool} {l m : List D}
/-! ### operators -/
def isNon : D → Bool
  | .non => true
  | _ => false
theorem rep_non {F : Hp} {v : V} (h : Rep K F v d) : decide (v = V.non) = isNon d := by
  cases h <;> first | rfl | simp [isNon]
/-! ### tests -/
/-! ### calls of built-ins -/
end
end DL

namespace DL
open PySem L2

section
variable {K : PySem.W.Frag} {te ta tb tc : TE} {t u : TT} {env e1 e2 e3 : Env} {r r1 r2 : Res} {d d1 d2 : D} {o : OB} {i j : Int} {x y : Str} {c c1 c2 : Bool} {l m : List D}
/-! ### isinstance -/
/-! ### subscripts -/
def cutD {α : Type} (xs : List α) (lo hi : Option Int) : List α := (xs.drop (HT.sIx xs.length 0 lo)).take (HT.sIx xs.length xs.length hi - HT.sIx xs.length 0 lo)
theorem cut_rep {F : Hp} {vs : List V} {lo hi : Option Int} (h : RepL K F vs l) : RepL K F (cutV vs lo hi) (cutD l lo hi) := by
  unfold cutV cutD
  rw [h.length]
  exact (h.drop _).take _
/-! ### displays, list(..), tuple(..), + -/
/-! ### what is walked -/
/-- both: for x in e, by what e is -/
def iSeqU (K : PySem.W.Frag) (te : TE) : TI := fun σ H R => iList K te σ H R ∨ (iTup K te σ H R ∨ iStr te σ H R)
theorem PI.or {X : Cx} {tg e : Expr} {w1 w2 : TI} (h1 : PI X tg e w1) (h2 : PI X tg e w2) : PI X tg e (fun σ H R => w1 σ H R ∨ w2 σ H R) := ⟨fun pins s σ H R I h => by
  rcases h with h | h
  · exact h1.run pins s σ H R I h
  · exact h2.run pins s σ H R I h⟩
theorem pi_seqU {X : Cx} {K : PySem.W.Frag} {tg e : Expr} {te : TE} (h : PE X e te) (q : X.K = K := by rfl) : PI X tg e (iSeqU K te) := by subst q; exact PI.or (pi_list h) (PI.or (pi_tup h) (pi_str h))
/-- the ints of a range -/
def rng (lo : Int) (n : Nat) : List D := (List.range n).map fun i => .int (lo + (i : Nat))
def rngC (lo c : Int) (n : Nat) : List D := (List.range n).map fun i => .int (lo + (i : Nat) * c)
theorem rng_get {lo : Int} {n i : Nat} {d : D} (h : (rng lo n)[i]? = some d) : d = .int (lo + (i : Nat)) ∧ i < n := by
  unfold rng at h
  rw [List.getElem?_map] at h
  by_cases q : i < n
  · rw [List.getElem?_range q] at h; cases h; exact ⟨rfl, q⟩
  · rw [List.getElem?_eq_none (by simpa using Nat.le_of_not_lt q)] at h; cases h
theorem rngC_get {lo c : Int} {n i : Nat} {d : D} (h : (rngC lo c n)[i]? = some d) : d = .int (lo + (i : Nat) * c) ∧ i < n := by
  unfold rngC at h
  rw [List.getElem?_map] at h
  by_cases q : i < n
  · rw [List.getElem?_range q] at h; cases h; exact ⟨rfl, q⟩
  · rw [List.getElem?_eq_none (by simpa using Nat.le_of_not_lt q)] at h; cases h
theorem rng_len {lo : Int} {n : Nat} : (rng lo n).length = n := by unfold rng; simp
theorem rngC_len {lo c : Int} {n : Nat} : (rngC lo c n).length = n := by unfold rngC; simp
end
end DL

namespace DL
open PySem L2

/-! ### targets -/
section
variable {K : PySem.W.Frag} {te ta tb tc : TE} {t u : TT} {env env' e1 e2 e3 : Env} {r r1 r2 : Res} {d d1 d2 : D} {o : OB} {i j : Nat} {c c1 c2 : Bool} {l m : List D} {g : TG}
/-! ### comprehensions -/
def wipeE (env : Env) : List Nat → Env
  | [] => env
  | v :: vs => (wipeE env vs).set v .any
theorem wipeE_len (env : Env) : ∀ vs : List Nat, (wipeE env vs).length = env.length
  | [] => rfl
  | v :: vs => by unfold wipeE; rw [List.length_set, wipeE_len env vs]
theorem wipeE_get {x : EV} : ∀ {vs : List Nat} {i : Nat}, (wipeE env vs)[i]? = some x → x = .any ∨ (i ∉ vs ∧ env[i]? = some x)
  | [], i, h => .inr ⟨by simp, h⟩
  | v :: vs, i, h => by
    unfold wipeE at h
    by_cases q : v = i
    · subst q
      rw [List.getElem?_set] at h
      split at h
      · split at h
        · cases h; exact .inl rfl
        · cases h
      · rename_i z; exact absurd rfl z
    · rw [List.getElem?_set_ne q] at h
      rcases wipeE_get h with z | ⟨z1, z2⟩
      · exact .inl z
      · exact .inr ⟨by simp only [List.mem_cons, not_or]; exact ⟨fun z => q z.symm, z1⟩, z2⟩
theorem wipe_out {σ : L2.St} : ∀ {vs : List Nat} {i : Nat}, i ∉ vs → (wipe σ vs)[i]? = σ[i]?
  | [], _, _ => rfl
  | v :: vs, i, h => by
    simp only [List.mem_cons, not_or] at h
    unfold wipe
    rw [List.getElem?_set_ne (Ne.symm h.1), wipe_out h.2]
theorem Sig.wiped {b : Bs} {F : Hp} {oa : Nat → Addr} {σ : L2.St} {H : Hp} (S : Sig K b F oa σ H env) (vs : List Nat) : Sig K b F oa (L2.wipe σ vs) H (wipeE env vs) where
  g := S.g
  len := by rw [wipe_length, wipeE_len, S.len]
  val := fun i d e => by
    rcases wipeE_get e with q | ⟨q, e⟩
    · cases q
    · rw [wipe_out q]; exact S.val i d e
  own := fun i o e => by
    rcases wipeE_get e with q | ⟨q, e⟩
    · cases q
    · rw [wipe_out q]; exact S.own i o e
  dist := fun i j o u e f z => by
    rcases wipeE_get e with q | ⟨_, e⟩
    · cases q
    · rcases wipeE_get f with q | ⟨_, f⟩
      · cases q
      · exact S.dist i j o u e f z
  fix := S.fix
/-- behind a turn: the slots vs as they were ahead, the others as they are -/
def back (vs : List Nat) : Nat → Env → Env → Env
  | n, a :: r, x :: s => (if vs.contains n then a else x) :: back vs (n + 1) r s
  | _, _, _ => []
end
end DL

namespace DL
open PySem L2

/-- what a def hands back -/
inductive Ret where
  | val (d : D) | new (o : OB) | exc (C : Addr)
def RetR (K : PySem.W.Frag) (b : Bs) (F : Hp) (H : Hp) (v : V) : Ret → Prop
  | .val d => Rep K F v d
  | .new o => ∃ a, v = .ref a ∧ F a = none ∧ b.H a = none ∧ (∀ j, b.fx j ≠ some a) ∧ ORep K F H a o
  | .exc _ => False
structure Sat (K : PySem.W.Frag) (b : Bs) (F : Hp) (W : WX) (D : Ends) (N B C : Env → Prop) (R : Ret → Env → Prop) : Prop where
  nx : ∀ env F' oa σ H, N env → Sig K b F' oa σ H env → Ex F F' → D.nx σ H
  bk : ∀ env F' oa σ H, B env → Sig K b F' oa σ H env → Ex F F' → D.bk σ H
  ct : ∀ env F' oa σ H, C env → Sig K b F' oa σ H env → Ex F F' → D.ct σ H
  rt : ∀ r env F' oa σ H v, R r env → Sig K b F' oa σ H env → Ex F F' → RetR K b F' H v r → D.rt v H
  xc : ∀ X env F' oa σ H, R (.exc X) env → Sig K b F' oa σ H env → Ex F F' → W (.ref X) none σ H
theorem Sat.mono {K : PySem.W.Frag} {b : Bs} {F F1 : Hp} {W : WX} {D : Ends} {N B C : Env → Prop} {R : Ret → Env → Prop} (s : Sat K b F W D N B C R) (e : Ex F F1) : Sat K b F1 W D N B C R :=
  ⟨fun env F' oa σ H h S x => s.nx env F' oa σ H h S (e.trans x), fun env F' oa σ H h S x => s.bk env F' oa σ H h S (e.trans x), fun env F' oa σ H h S x => s.ct env F' oa σ H h S (e.trans x), fun r env F' oa σ H v h S x q => s.rt r env F' oa σ H v h S (e.trans x) q, fun X env F' oa σ H h S x => s.xc X env F' oa σ H h S (e.trans x)⟩
/-- a statement: from env it goes on (N), breaks (B), continues (C), or hands back (R); pr: the slots whose objects were handed in to be changed -/
def Exec (K : PySem.W.Frag) (pr : List Nat) (W : WX) (t : TS) (env : Env) (N B C : Env → Prop) (R : Ret → Env → Prop) : Prop := ∀ (b : Bs) (F : Hp) (oa : Nat → Addr) (σ : L2.St) (H : Hp) (D : Ends),
  (∀ i, b.fx i ≠ none → i ∈ pr) → Sig K b F oa σ H env → Sat K b F W D N B C R → t D σ H

section
variable {K : PySem.W.Frag} {pr : List Nat} {W : WX} {te ta tb tc : TE} {t u : TT} {s s1 s2 : TS} {env env' e1 e2 e3 : Env} {r r1 r2 : Res} {d d1 d2 : D} {o : OB} {i j : Nat} {c c1 c2 : Bool} {l m : List D} {g : TG} {N N' B B' C C' : Env → Prop} {R R' : Ret → Env → Prop}
theorem x_mono (h : Exec K pr W s env N B C R) (hn : ∀ e, N e → N' e) (hb : ∀ e, B e → B' e) (hc : ∀ e, C e → C' e) (hr : ∀ r e, R r e → R' r e) : Exec K pr W s env N' B' C' R' := fun b F oa σ H D hp S st =>
  h b F oa σ H D hp S ⟨fun env F oa σ H h S => st.nx env F oa σ H (hn _ h) S, fun env F oa σ H h S => st.bk env F oa σ H (hb _ h) S, fun env F oa σ H h S => st.ct env F oa σ H (hc _ h) S, fun r env F oa σ H v h S x q => st.rt r env F oa σ H v (hr _ _ h) S x q, fun X env F oa σ H h S x => st.xc X env F oa σ H (hr _ _ h) S x⟩
end

/-! ### promises -/
/-- an argument: data, or an object handed in to be changed -/
inductive AV where
  | val (d : D) | own (o : OB)
structure ArgsR (K : PySem.W.Frag) (F H : Hp) (vs : List V) (as : List AV) : Prop where
  len : vs.length = as.length
  val : ∀ (i : Nat) (d : D), as[i]? = some (.val d) → ∃ v, vs[i]? = some v ∧ Rep K F v d
  own : ∀ (i : Nat) (o : OB), as[i]? = some (.own o) → ∃ a, vs[i]? = some (.ref a) ∧ F a = none ∧ ORep K F H a o
  dist : ∀ (i j : Nat) (o u : OB) (a : Addr), as[i]? = some (.own o) → as[j]? = some (.own u) → vs[i]? = some (.ref a) → vs[j]? = some (.ref a) → i = j
/-- an address of an object that was handed in to be changed -/
def ownA (vs : List V) (as : List AV) (a : Addr) : Prop := ∃ (i : Nat) (o : OB), as[i]? = some (.own o) ∧ vs[i]? = some (.ref a)
structure CallEnd (K : PySem.W.Frag) (F H F' H' : Hp) (vs : List V) (as as' : List AV) (v : V) (r : Ret) : Prop where
  ff : Ex F F'
  fh : Ex F' H'
  kp : ∀ a u, H a = some u → ¬ ownA vs as a → H' a = some u
  gn : ∀ a, F' a ≠ none → F a ≠ none ∨ H a = none
  th : ∀ a, H a ≠ none → H' a ≠ none
  own : ∀ (i : Nat) (o : OB), as[i]? = some (.own o) → ∃ o' a, as'[i]? = some (.own o') ∧ vs[i]? = some (.ref a) ∧ F' a = none ∧ ORep K F' H' a o'
  ret : match r with
    | .val d => Rep K F' v d
    | .new o => ∃ a, v = .ref a ∧ F' a = none ∧ H a = none ∧ ORep K F' H' a o
    | .exc _ => True
/-- what is wanted of what came -/
def outR (r : Ret) (E : XK) (Q : VK) (v : V) (H : Hp) : Prop := match r with
  | .exc C => E (.ref C) none H
  | _ => Q v H
/-- THE PROMISE: from arguments as it hands back r and leaves them as' -/
def SpG (K : PySem.W.Frag) (P : List AV → Ret → List AV → Prop) : Sp := fun vs H Q E => ∃ F as r as', Ex F H ∧ ArgsR K F H vs as ∧ P as r as' ∧ ∀ v F' H', CallEnd K F H F' H' vs as as' v r → outR r E Q v H'
def AV.ev : AV → EV
  | .val d => .val d
  | .own o => .own o
open Classical in
noncomputable def hideA (vs : List V) (as : List AV) (H : Hp) : Hp := fun a => if ownA vs as a then none else H a
theorem hideA_ex {vs : List V} {as : List AV} {H : Hp} : Ex (hideA vs as H) H := fun a o e => by
  unfold hideA at e
  split at e
  · cases e
  · exact e
/-- what was handed in is in its slots yet -/
def Held (as as' : List AV) (e : Env) : Prop := ∀ (i : Nat) (o : OB), as[i]? = some (AV.own o) → ∃ o', as'[i]? = some (AV.own o') ∧ e[i]? = some (EV.own o')
/-- a def's body keeps its promise -/
theorem run_SpG {K : PySem.W.Frag} {P : List AV → Ret → List AV → Prop} {Nm : List Str} {n : Nat} {t : TS} {vs : List V} {H : Hp} {Q : VK} {E : XK} (h : SpG K P vs H Q E) (hn : ∀ as r as', P as r as' → as.length = n ∧ n ≤ Nm.length)
    (body : ∀ as r as', P as r as' → ∃ pr : List Nat, (∀ (i : Nat) (o : OB), as[i]? = some (AV.own o) → i ∈ pr) ∧ Exec K pr (fun cls d _ H => E cls d H) t (as.map AV.ev ++ List.replicate (Nm.length - n) .any)
      (fun e => r = .val .non ∧ Held as as' e) (fun _ => False) (fun _ => False) (fun q e => q = r ∧ Held as as' e)) :
    t { nx := fun _ H' => Q .non H', rt := Q } (L2.start Nm vs) H := by
  obtain ⟨F, as, r, as', e, ar, p, k⟩ := h
  obtain ⟨hl, hnm⟩ := hn as r as' p
  obtain ⟨pr, hpr, hx⟩ := body as r as' p
  have lvs : vs.length = n := by rw [ar.len, hl]
  have stg : ∀ (i : Nat) (v : V), vs[i]? = some v → (L2.start Nm vs)[i]? = some (some v) := fun i v h => by
    unfold L2.start
    have hi : i < vs.length := (List.getElem?_eq_some_iff.mp h).1
    rw [List.getElem?_append_left (by simpa using hi), List.getElem?_map, h]; rfl
  have evg : ∀ (i : Nat) (x : EV), (as.map AV.ev ++ List.replicate (Nm.length - n) .any)[i]? = some x → x = .any ∨ ∃ a, as[i]? = some a ∧ x = a.ev := fun i x h => by
    by_cases hi : i < as.length
    · rw [List.getElem?_append_left (by simpa using hi), List.getElem?_map] at h
      cases z : as[i]? with
      | none => rw [z] at h; cases h
      | some a => rw [z] at h; cases h; exact .inr ⟨a, rfl, rfl⟩
    · rw [List.getElem?_append_right (by simpa using Nat.le_of_not_lt hi)] at h
      have := List.getElem?_eq_some_iff.mp h
      obtain ⟨h1, h2⟩ := this
      rw [List.getElem_replicate] at h2
      exact .inl h2.symm
  have evo : ∀ (i : Nat) (o : OB), (as.map AV.ev ++ List.replicate (Nm.length - n) .any)[i]? = some (.own o) → as[i]? = some (.own o) := fun i o h => by
    rcases evg i _ h with z | ⟨a, h1, h2⟩
    · cases z
    · cases a with
      | val d => cases h2
      | own u => cases h2; exact h1
  -- the addresses
  let oa : Nat → Addr := fun i => match vs[i]? with
    | some (.ref a) => a
    | _ => 0
  have oav : ∀ (i : Nat) (a : Addr), vs[i]? = some (.ref a) → oa i = a := fun i a h => by show (match vs[i]? with | some (.ref a) => a | _ => 0) = a; rw [h]
  let fx : Nat → Option Addr := fun i => match as[i]? with
    | some (.own _) => some (oa i)
    | _ => none
  have fxs : ∀ i a, fx i = some a → ∃ o, as[i]? = some (.own o) ∧ a = oa i := fun i a h => by
    have h' : (match as[i]? with | some (.own _) => some (oa i) | _ => none) = some a := h
    cases z : as[i]? with
    | none => rw [z] at h'; cases h'
    | some x =>
      rw [z] at h'
      cases x with
      | val d => cases h'
      | own o => cases h'; exact ⟨o, rfl, rfl⟩
  have hidN : ∀ (i : Nat) (o : OB) (a : Addr), as[i]? = some (.own o) → vs[i]? = some (.ref a) → hideA vs as H a = none := fun i o a h1 h2 => by
    unfold hideA
    rw [if_pos ⟨i, o, h1, h2⟩]
  have S : Sig K ⟨F, hideA vs as H, fx⟩ F oa (L2.start Nm vs) H (as.map AV.ev ++ List.replicate (Nm.length - n) .any) := by
    refine ⟨⟨Ex.refl _, hideA_ex, e, fun a h => .inl h⟩, ?_, fun i d h => ?_, fun i o h => ?_, fun i j o u h1 h2 q => ?_, fun i a h => ?_⟩
    · unfold L2.start; simp [lvs, hl]
    · rcases evg i _ h with z | ⟨a, h1, h2⟩
      · cases z
      · cases a with
        | own o => cases h2
        | val d' =>
          cases h2
          obtain ⟨v, q1, q2⟩ := ar.val i d h1
          exact ⟨v, stg i v q1, q2⟩
    · have h1 := evo i o h
      obtain ⟨a, q1, q2, q3⟩ := ar.own i o h1
      rw [oav i a q1]
      exact ⟨stg i _ q1, q2, hidN i o a h1 q1, q3⟩
    · have h1 := evo i o h1
      have h2 := evo j u h2
      obtain ⟨a, q1, _⟩ := ar.own i o h1
      obtain ⟨a', q1', _⟩ := ar.own j u h2
      rw [oav i a q1, oav j a' q1'] at q
      subst q
      exact ar.dist i j o u a h1 h2 q1 q1'
    · obtain ⟨o, h1, rfl⟩ := fxs i a h
      obtain ⟨a, q1, _, q3⟩ := ar.own i o h1
      obtain ⟨w, hw⟩ := q3.ho
      exact ⟨rfl, by rw [oav i a q1, hw]; simp⟩
  have fin : ∀ env F' oa' σ' H' v, Sig K ⟨F, hideA vs as H, fx⟩ F' oa' σ' H' env → Held as as' env → (RetR K ⟨F, hideA vs as H, fx⟩ F' H' v r ∨ ∃ C, r = .exc C) → outR r E Q v H' := fun env F' oa' σ' H' v S' ho hr => by
    have fxo : ∀ (i : Nat) (o : OB) (a : Addr), as[i]? = some (.own o) → vs[i]? = some (.ref a) → oa' i = a ∧ H' a ≠ none := fun i o a h1 h2 => by
      have q : fx i = some a := by
        show (match as[i]? with | some (.own _) => some (oa i) | _ => none) = some a
        rw [h1, oav i a h2]
      exact S'.fix i a q
    have hkp : ∀ a u, H a = some u → ¬ ownA vs as a → H' a = some u := fun a u h n => S'.g.gh a u (by
      show hideA vs as H a = some u
      unfold hideA
      rw [if_neg n]; exact h)
    refine k v F' H' ⟨S'.g.gf, S'.g.fh, hkp, fun a h => ?_, fun a h => ?_, fun i o h => ?_, ?_⟩
    · rcases S'.g.gn a h with q | q
      · exact .inl q
      · by_cases z : ownA vs as a
        · obtain ⟨i, o, h1, h2⟩ := z
          obtain ⟨o', h3, h4⟩ := ho i o h1
          obtain ⟨_, x2, _⟩ := S'.own i o' h4
          rw [(fxo i o a h1 h2).1] at x2
          exact absurd x2 h
        · refine .inr ?_
          have q' : hideA vs as H a = none := q
          unfold hideA at q'
          rw [if_neg z] at q'
          exact q'
    · by_cases z : ownA vs as a
      · obtain ⟨i, o, h1, h2⟩ := z
        exact (fxo i o a h1 h2).2
      · cases w : H a with
        | none => exact absurd w h
        | some u => rw [hkp a u w z]; simp
    · obtain ⟨o', h3, h4⟩ := ho i o h
      obtain ⟨a, q1, _⟩ := ar.own i o h
      obtain ⟨_, x2, _, x4⟩ := S'.own i o' h4
      rw [(fxo i o a h q1).1] at x2 x4
      exact ⟨o', a, h3, q1, x2, x4⟩
    · cases r with
      | exc C => trivial
      | val d =>
        rcases hr with hr | ⟨_, hr⟩
        · exact hr
        · cases hr
      | new o =>
        rcases hr with hr | ⟨_, hr⟩
        rotate_left
        · cases hr
        obtain ⟨a, rfl, h1, h2, h3, h4⟩ := hr
        refine ⟨a, rfl, h1, ?_, h4⟩
        have h2' : hideA vs as H a = none := h2
        unfold hideA at h2'
        split at h2'
        · rename_i z
          obtain ⟨i, o', h5, h6⟩ := z
          refine absurd ?_ (h3 i)
          show (match as[i]? with | some (.own _) => some (oa i) | _ => none) = some a
          rw [h5, oav i a h6]
        · exact h2'
  refine hx ⟨F, hideA vs as H, fx⟩ F oa (L2.start Nm vs) H _ (fun i h => ?_) S ⟨fun env F' oa σ H h S x => ?_, fun _ _ _ _ _ h => h.elim, fun _ _ _ _ _ h => h.elim, fun q env F' oa σ H v h S x hr => ?_, fun X env F' oa σ H h S x => ?_⟩
  · cases z : fx i with
    | none => exact absurd z h
    | some a =>
      obtain ⟨o, h1, _⟩ := fxs i a z
      exact hpr i o h1
  · obtain ⟨h1, h2⟩ := h
    subst h1
    exact fin env F' oa σ H .non S h2 (.inl .non)
  · obtain ⟨h1, h2⟩ := h
    subst h1
    have := fin env F' oa σ H v S h2 (.inl hr)
    cases q with
    | exc C => exact hr.elim
    | val d => exact this
    | new o => exact this
  · obtain ⟨h1, h2⟩ := h
    subst h1
    exact fin env F' oa σ H .non S h2 (.inr ⟨_, rfl⟩)
/-- raise C('..') -/
def tRaise (W : WX) (C : Addr) : TS := fun _ σ H => W (.ref C) none σ H
section
variable {K : PySem.W.Frag} {pr : List Nat} {W : WX} {env e1 : Env} {N B C : Env → Prop} {R : Ret → Env → Prop} {X : Addr}
end
end DL

namespace DL
open PySem L2

/-! ### calls -/
section
variable {K : PySem.W.Frag} {env e1 : Env} {P : List AV → Ret → List AV → Prop} {rs : List Res} {as as' : List AV} {d : D} {o : OB} {ta : TA} {E : XK}
def slots : List Res → List Nat
  | [] => []
  | .val _ :: r => slots r
  | .slot i :: r => i :: slots r
/-! ### expressions that raise -/
variable {W : WX} {X : Addr} {te tb tl : TE} {t u : TT} {rr : R2} {e2 : Env} {r : Res} {cc : Bool} {pr : List Nat} {N B C : Env → Prop} {R : Ret → Env → Prop} {g : TG}
end
end DL

/-! ### an exception that is caught, and kept by a name behind its clause -/
namespace L2
open PySem PySem.Spec PyProof.Rows DL
section
variable {X : Cx} {pins : List (Addr × Obj)} {σ : L2.St} {H : Hp} {s : Shared}
/-- what 'except x as n: m = n' wishes: slot j is m's, i is n's -/
def wKeep (K : PySem.W.Frag) (c : Value) (i j : Nat) (D : Ends) : WX := fun cls d σ H =>
  ∃ C, cls = .ref C ∧ d = none ∧ PySem.W.exmOne K cls c = some true ∧ ∀ a, H a = none → D.nx (((σ.set i (some (.ref a))).set j (some (.ref a))).set i none) (upd H a (ExK C a))
end
section
variable {X : Cx} {x n : Str} {c : Value} {i j : Nat} {body suite : List Stmt} {b₀ : Stmt} {np pos pos' : Pos} {tb : WX → TS}
end
end L2

namespace DL
open PySem L2
section
variable {K : PySem.W.Frag} {b : Bs} {F H : Hp} {oa : Nat → Addr} {σ : L2.St} {env : Env} {i j : Nat}
theorem Sig.unset (S : Sig K b F oa σ H env) : Sig K b F oa (σ.set i none) H (env.set i .any) where
  g := S.g
  len := by simp [S.len]
  val := fun n d e => by
    by_cases q : i = n
    · subst q
      rw [List.getElem?_set] at e
      split at e
      · split at e <;> cases e
      · rename_i z; exact absurd rfl z
    · rw [List.getElem?_set_ne q] at e
      rw [List.getElem?_set_ne q]
      exact S.val n d e
  own := fun n d e => by
    by_cases q : i = n
    · subst q
      rw [List.getElem?_set] at e
      split at e
      · split at e <;> cases e
      · rename_i z; exact absurd rfl z
    · rw [List.getElem?_set_ne q] at e
      rw [List.getElem?_set_ne q]
      exact S.own n d e
  dist := fun n m o u e f z => by
    have t : ∀ (n : Nat) (o : OB), (env.set i .any)[n]? = some (EV.own o) → env[n]? = some (EV.own o) := fun n o e => by
      by_cases q : i = n
      · subst q
        rw [List.getElem?_set] at e
        split at e
        · split at e <;> cases e
        · rename_i z; exact absurd rfl z
      · rw [List.getElem?_set_ne q] at e; exact e
    exact S.dist n m o u (t _ _ e) (t _ _ f) z
  fix := S.fix
end
/-- try: body / except c as n: m = n -/
def tTry (K : PySem.W.Frag) (c : Value) (i j : Nat) (tb : WX → TS) : TS := fun D σ H => tb (wKeep K c i j D) D σ H
section
variable {K : PySem.W.Frag} {pr : List Nat} {W : WX} {env : Env} {i j : Nat} {N B C : Env → Prop} {R : Ret → Env → Prop} {c : Value} {tb : WX → TS}
/-- what is caught goes on with slot j holding it -/
def caught (K : PySem.W.Frag) (c : Value) (i j : Nat) (N : Env → Prop) (R : Ret → Env → Prop) : Ret → Env → Prop := fun q e => match q with
  | .exc X => PySem.W.exmOne K (.ref X) c = some true ∧ N (((e.set i (.val (.exc X))).set j (.val (.exc X))).set i .any)
  | q => R q e
end

/-! ### isinstance, of exceptions too -/
def rIsX (K : PySem.W.Frag) : List V → Hp → VK → Prop := fun xs H Q => ∃ (a C : Addr) (c : V) (u : Value) (b : Bool), xs = [.ref a, c] ∧ H a = some (ExK C a) ∧ ExcC K C ∧ ClsV c u ∧ PySem.W.kitOne K (.ref C) u = some b ∧ Q (.bl b) H
def rIsXT (K : PySem.W.Frag) : List V → Hp → VK → Prop := fun xs H Q => ∃ (a C tp : Addr) (cs : List V) (us : List Value) (b : Bool), xs = [.ref a, .ref tp] ∧ H a = some (ExK C a) ∧ ExcC K C ∧ H tp = some (.tup cs) ∧ Paired ClsV cs us ∧ PySem.W.kitAny K (.ref C) us = some b ∧ Q (.bl b) H
theorem exk_at {X : Cx} {pins : List (Addr × Obj)} {σ : L2.St} {H : Hp} {s : Shared} {a C : Addr} (I : Inv X pins σ H s) (h : H a = some (ExK C a)) : ∃ oe, PySem.W.InstAt s.heap a oe C none := by
  obtain ⟨⟨oe, vs, h1, h2, h3⟩, _⟩ := (show ObjOk X.prog X.w H s.heap a (ExK C a) from I.hok a _ h)
  obtain ⟨oc, od, dt, sl⟩ := oe
  obtain ⟨z1, z2⟩ := h2
  dsimp only at z1 z2 h3
  subst z1 z2 h3
  exact ⟨_, h1, rfl, rfl, trivial⟩
section
variable {X : Cx}
theorem call_isX : CallR X (.builtin "isinstance") (rIsX X.K) := by
  intro pins s σ H xs us Q I r h
  obtain ⟨a, C, c, u, b, rfl, ha, x, k, e, q⟩ := h
  obtain ⟨u1, u2, rfl, r1, r2⟩ := vals2 r
  have e2 := k.eq r2
  subst e2
  cases (show u1 = Value.ref a from r1)
  obtain ⟨oe, J⟩ := exk_at I ha
  exact PySem.W.kia_one (PySem.W.handS_kitx_exc x.hg x.hk x.hs x.hd x.ha x.hn x.ht x.hm) I.kIn J e (fun z => nomatch z) fun tk => ⟨.bl b, H, I.tok tk, rfl, q⟩
theorem call_isXT : CallR X (.builtin "isinstance") (rIsXT X.K) := by
  intro pins s σ H xs us Q I r h
  obtain ⟨a, C, tp, cs, ws, b, rfl, ha, x, hT, k, e, q⟩ := h
  obtain ⟨u1, u2, rfl, r1, r2⟩ := vals2 r
  cases (show u1 = Value.ref a from r1)
  cases (show u2 = Value.ref tp from r2)
  obtain ⟨oe, J⟩ := exk_at I ha
  obtain ⟨_, its, rv, o, h1, h2, n, h3⟩ := (show ObjOk X.prog X.w H s.heap tp (.tup cs) from I.hok tp _ hT)
  have e3 := ClsV.all k rv
  subst e3
  obtain ⟨oc, od, dt, sl⟩ := o
  dsimp only at h2 h3
  subst h2 h3
  exact PySem.W.kia_tup (PySem.W.handS_kitx_exc x.hg x.hk x.hs x.hd x.ha x.hn x.ht x.hm) I.kIn J h1 e (fun z => nomatch z) fun tk => ⟨.bl b, H, I.tok tk, rfl, q⟩
end
def rIsiU (K : PySem.W.Frag) : List V → Hp → VK → Prop := fun xs H Q => rIsi K xs H Q ∨ (rIsiT K xs H Q ∨ (rIsX K xs H Q ∨ rIsXT K xs H Q))
theorem call_isiA {X : Cx} {K : PySem.W.Frag} (e : X.K = K := by rfl) : CallR X (.builtin "isinstance") (rIsiU K) := by subst e; exact CallR.or call_isi (CallR.or call_isiT (CallR.or call_isX call_isXT))
/-- raise C('..') -/
theorem ps_raiseC {X : Cx} {W : WX} {C : Addr} {e : Expr} {pos : Pos} (hc : X.calm = true) (tk : Takes X W) (he : PMk X e (fun _ H Q => Q (.ref C) none H)) : PS X (.Raise (some e) none pos) (tRaise W C) := ps_raise hc tk he
end DL

namespace DL
open PySem L2

/-! ### operators and built-ins by what their operands came to -/
section
variable {K : PySem.W.Frag} {te ta tb tc : TE} {t u : TT} {env e e1 e2 e3 : Env} {r r1 r2 r3 : Res} {d d1 d2 : D} {o : OB} {i j k' : Int} {x y : Str} {c c1 c2 : Bool} {l m : List D} {rr : R2}
end

/-! ### defs -/
/-- a def that may be called by its name -/
structure Df (P : Program) (w : World) (K : PySem.W.Frag) (mg : Str → Option Value) (base : Heap) (k : Nat) (x : Str) (sp : Sp) : Prop where
  ex : ∃ (f : Addr) (fd : FuncData) (ps : List Str), FnOk P w K mg base CX0 k f fd ps sp ∧ mg x = some (.ref f) ∧ PySem.W.keepIn K (.ref f) = true ∧ Binds K fd ps []
section
variable {X : Cx} {k j : Nat} {x : Str} {sp : Sp} {p pos : Pos} {e : Expr} {es : List Expr} {t : TA}
end
/-- .. that may raise -/
structure Dx (P : Program) (w : World) (K : PySem.W.Frag) (mg : Str → Option Value) (base : Heap) (k : Nat) (x : Str) (sp : Sp) : Prop where
  ex : ∃ (f : Addr) (fd : FuncData) (ps : List Str), FnOk P w K mg base (L2.CX P w) k f fd ps sp ∧ mg x = some (.ref f) ∧ PySem.W.keepIn K (.ref f) = true ∧ Binds K fd ps []
section
variable {X : Cx} {W : WX} {k j : Nat} {x : Str} {sp : Sp} {p pos : Pos} {e : Expr} {es : List Expr} {t : TA}
theorem pe_dx (c : Dx X.prog X.w X.K X.mg X.base k x sp) (tk : Takes X W) (hr : Room j X.A) (hk : k ≤ j) (hg : Gl X x) (ha : PA X (e :: es) t)
    (hdb : (x == ("__debug__" : Str)) = false := by decide) (he : starEach (e :: es) X.env = (false, eval e X.env) :: starEach es X.env := by rfl) (hpl : (backTo pos (starEach es X.env)).any (·.1) = false := by rfl) :
    PE X (.Call (.Name x p) (e :: es) [] pos) (tCallS sp (WE W) t) := by
  obtain ⟨f, fd, ps, F, hm, kp, b⟩ := c.ex
  exact pe_callS F (hr.mono hk) hg hm kp b (fun σ => passAt tk σ) ha hdb he hpl
/-- .. and does not, where it is called -/
theorem pe_dx0 (c : Dx X.prog X.w X.K X.mg X.base k x sp) (hr : Room j X.A) (hk : k ≤ j) (hg : Gl X x) (ha : PA X (e :: es) t)
    (hdb : (x == ("__debug__" : Str)) = false := by decide) (he : starEach (e :: es) X.env = (false, eval e X.env) :: starEach es X.env := by rfl) (hpl : (backTo pos (starEach es X.env)).any (·.1) = false := by rfl) :
    PE X (.Call (.Name x p) (e :: es) [] pos) (tCall sp [] E0 t) := by
  obtain ⟨f, fd, ps, F, hm, kp, b⟩ := c.ex
  exact pe_call F (hr.mono hk) hg hm kp b .nil passL ha hdb he hpl
end
theorem vals_noOwn {ds : List D} {i : Nat} {o : OB} : (ds.map AV.val)[i]? ≠ some (AV.own o) := by
  rw [List.getElem?_map]
  cases ds[i]? <;> simp
section
variable {K : PySem.W.Frag} {env e1 : Env} {f : List D → D → Prop} {g : List D → OB → Prop} {rs : List Res} {ds : List D} {d : D} {o : OB} {ta : TA} {E : XK}
end
section
variable {K : PySem.W.Frag} {env e1 : Env} {f : List D → Ret → Prop} {rs : List Res} {ds : List D} {d : D} {o : OB} {ta : TA} {W : WX} {C : Addr} {E : XK}
end
section
variable {P : Program} {w : World} {K : PySem.W.Frag} {mg : Str → Option Value} {base : Heap} {x qn : Str} {st : Stmt} {fa : Addr} {fd : FuncData} {N ps : List Str} {k : Nat}
theorem spG_len {Pr : List AV → Ret → List AV → Prop} {n : Nat} (hn : ∀ as r as', Pr as r as' → as.length = n) {vs : List V} {H : Hp} {Q : VK} {E : XK} (h : SpG K Pr vs H Q E) : vs.length = n := by
  obtain ⟨F, as, r, as', _, ar, p, _⟩ := h
  rw [ar.len, hn as r as' p]
theorem Fn.ofG {Pr : List AV → Ret → List AV → Prop} (F : Fun K x qn st fa fd) (S : FnScope N ps (defScope st)) (hn : ∀ as r as', Pr as r as' → as.length = ps.length)
    (body : ∀ (cdv : Value) (A : Around) (outer : List PySem.Env) (s : Shared) (H : Hp) (E : XK), Room k (A.deeper (PyProof.Rows.envOfC qn (defScope st) s.heap.objs.size fa cdv)) →
      ∃ t, PSs (cxOf CX0 P w K mg base N qn (defScope st) fa cdv A outer s H E).nox (defBody st) t ∧ ∀ as r as', Pr as r as' → ∃ pr : List Nat, (∀ (i : Nat) (o : OB), as[i]? = some (AV.own o) → i ∈ pr) ∧ Exec K pr (fun cls d _ H => E cls d H) t (as.map AV.ev ++ List.replicate (N.length - ps.length) .any)
      (fun e => r = .val .non ∧ Held as as' e) (fun _ => False) (fun _ => False) (fun q e => q = r ∧ Held as as' e)) : FnOk P w K mg base CX0 (k + 1) fa fd ps (SpG K Pr) :=
  F.ok S (fun vs H Q E h => spG_len hn h) (fun cdv A outer s H vs Q E hr h => by
    obtain ⟨t, h1, h2⟩ := body cdv A outer s H E hr
    have hpl : ps.length ≤ N.length := by have := congrArg List.length S.pre; rw [List.length_take] at this; omega
    exact ⟨t, h1, run_SpG h (fun as r as' p => ⟨hn as r as' p, hpl⟩) h2⟩)
theorem Dx.of {sp : Sp} (h : FnOk P w K mg base (L2.CX P w) k fa fd ps sp) (F : Fun K x qn st fa fd) (hm : mg x = some (.ref fa)) (b : Binds K fd ps []) : Dx P w K mg base k x sp := ⟨fa, fd, ps, h, hm, F.kp, b⟩
theorem Df.of {sp : Sp} (h : FnOk P w K mg base CX0 k fa fd ps sp) (F : Fun K x qn st fa fd) (hm : mg x = some (.ref fa)) (b : Binds K fd ps []) : Df P w K mg base k x sp := ⟨fa, fd, ps, h, hm, F.kp, b⟩
end
end DL

namespace DL
open PySem L2
/-! ### == of data, by a plain function -/
mutual
def pl : Nat → D → Bool
  | _, .non => true
  | _, .bl _ => true
  | _, .int _ => true
  | _, .str x => PyData.canLay0 (.str x)
  | n + 1, .tup l => plL n l
  | n + 1, .lst l => plL n l
  | _, _ => false
def plL : Nat → List D → Bool
  | _, [] => true
  | n, d :: r => pl n d && plL n r
end
/-! ### items -/
/-! ### comprehensions over one name, the slots left as they are -/
section
variable {K : PySem.W.Frag} {te : TE} {t : TT} {env e1 : Env} {wi : TI} {j : Nat}
end
/-! ### isinstance of data -/
end DL

namespace DL
open PySem L2
section
variable {K : PySem.W.Frag} {pr : List Nat} {W : WX} {s : TS} {env e1 : Env} {i j : Nat} {N B C : Env → Prop} {R : Ret → Env → Prop} {wi : TI} {ds : List D}
theorem small_of {n : Int} (c : Int) (h0 : 0 ≤ n) (h1 : n ≤ 70) (hc : c = 1 ∨ c = 2 ∨ c = 3 ∨ c = 8) : Builtin.Range.small 0 n c = true := by
  have k1 : ∀ m : Nat, m < 71 → Builtin.Range.small 0 (m : Int) 1 = true := by decide
  have k2 : ∀ m : Nat, m < 71 → Builtin.Range.small 0 (m : Int) 2 = true := by decide
  have k3 : ∀ m : Nat, m < 71 → Builtin.Range.small 0 (m : Int) 3 = true := by decide
  have k8 : ∀ m : Nat, m < 71 → Builtin.Range.small 0 (m : Int) 8 = true := by decide
  have e : n = ((n.toNat : Nat) : Int) := by omega
  rw [e]
  rcases hc with h | h | h | h <;> subst h
  · exact k1 _ (by omega)
  · exact k2 _ (by omega)
  · exact k3 _ (by omega)
  · exact k8 _ (by omega)
theorem rg_of {n c : Int} (h : Builtin.Range.small 0 n c = true) (hc : 0 < c ∧ c < 1000) : RgC 0 n c (if 0 < n then (n - 1) / c + 1 else 0).toNat := by
  refine ⟨by omega, by omega, h, ?_⟩
  unfold Builtin.Range.rangeSize
  rw [if_pos (show c > 0 from hc.1)]
  by_cases q : 0 < n
  · rw [if_pos q, if_pos q]
    have : 0 ≤ (n - 1) / c := Int.ediv_nonneg (by omega) (by omega)
    rw [show n - 0 - 1 = n - 1 by omega]
    omega
  · rw [if_neg q, if_neg q]; rfl
/-- range(0, n, 3) for n to 70 -/
theorem rg3 {n : Int} (h0 : 0 ≤ n) (h1 : n ≤ 70) : RgC 0 n 3 (if 0 < n then (n - 1) / 3 + 1 else 0).toNat := rg_of (small_of 3 h0 h1 (by omega)) (by omega)
theorem log2_lt {n : Int} {k : Nat} (h0 : 0 < n) (h : n < 2 ^ k) (hk : k < 9000) : 0 < n ∧ n.natAbs.log2 < 9000 := by
  refine ⟨h0, ?_⟩
  have e : ((2 ^ k : Nat) : Int) = 2 ^ k := by simp
  have a : n.natAbs < 2 ^ k := by omega
  have := (Nat.log2_lt (n := n.natAbs) (k := k) (by omega)).mpr a
  omega
end
end DL

/-! ### methods of data by what their operands came to -/
namespace L2
open PySem PySem.Spec PyProof.Rows
end L2
namespace DL
open PySem L2
section
variable {K : PySem.W.Frag} {te tb : TE} {ta : TA} {env e e1 e2 : Env} {r r' : Res} {rs : List Res} {d : D} {l : List D} {i j : Nat} {n : Int} {x y : Str}
end
end DL

namespace DL
open PySem L2
/-! ### more statements and operators -/
def ipAddU : TIp := fun x y H Q => ipI (fun i j => i + j) x y H Q ∨ rExt2 x y H Q
theorem ip_addU {X : Cx} : PIp X .Add ipAddU := fun pins s σ H x y v u Q I rx ry h => by
  rcases h with h | h
  · exact ip_add pins s σ H x y v u Q I rx ry h
  · exact iop_ext pins s σ H x y v u Q I rx ry h
section
variable {K : PySem.W.Frag} {pr : List Nat} {W : WX} {te ta tb : TE} {env e1 e2 e : Env} {r r1 r2 : Res} {i j : Nat} {l m : List D} {N B C : Env → Prop} {R : Ret → Env → Prop} {n k : Int} {d d1 d2 : D} {c : Bool}
end
end DL
namespace DL
open PySem L2
end DL

/-! ### a tuple times any small number -/
namespace L2
open PySem PySem.Spec PyProof.Rows
theorem mulT_same (l : Addr) (items : Array Value) (n : Nat) (dd : Option Addr) (sl : Array (Option Value)) (x : Int) (u : Tok) (c0 : (decide (x < -(2 ^ 63)) || decide (x ≥ 2 ^ 63)) = false) (c1 : (items.isEmpty || x == 1) = true) :
    Meets (Builtin.«tuple.__mul__» ⟨[.ref l, .int x u], []⟩) (fun _ R s => s.heap.get? l = some { cls := .type "tuple", dict := dd, data := .seq items n, slots := sl } ∧ R (.ok (.ret (.ref l))) s) := .of_wp fun prog w A R s h => by
  obtain ⟨hp, g, d, tk, os⟩ := s
  obtain ⟨hl, h⟩ := h
  have g1 := AutoSeq1.idx_int
  wp_walk using wpAny_loadPart' hl
  repeat (first
    | (refine wpAny_ite_false (decide_eq_false (by rw [c0]; decide)) ?_; wp_walk using wpAny_loadPart' hl)
    | (refine wpAny_ite_true (decide_eq_true c1) ?_; wp_walk using wpAny_loadPart' hl))
  exact ⟨_, rfl, h⟩
theorem mulT_none (l : Addr) (items : Array Value) (n : Nat) (dd : Option Addr) (sl : Array (Option Value)) (x : Int) (u : Tok) (c0 : (decide (x < -(2 ^ 63)) || decide (x ≥ 2 ^ 63)) = false) (c1 : (items.isEmpty || x == 1) = false) (c2 : (decide (x ≤ 0) || items.isEmpty) = true) :
    Meets (Builtin.«tuple.__mul__» ⟨[.ref l, .int x u], []⟩) (fun _ R s => s.heap.get? l = some { cls := .type "tuple", dict := dd, data := .seq items n, slots := sl } ∧
      R (.ok (.ret (.ref s.heap.objs.size))) { s with heap := s.heap.push { cls := .type "tuple", data := .seq #[] }, toks := s.toks }) := .of_wp fun prog w A R s h => by
  obtain ⟨hp, g, d, tk, os⟩ := s
  obtain ⟨hl, h⟩ := h
  have g1 := AutoSeq1.idx_int
  wp_walk using wpAny_loadPart' hl
  repeat (first
    | (refine wpAny_ite_false (decide_eq_false (by rw [c0]; decide)) ?_; wp_walk using wpAny_loadPart' hl)
    | (refine wpAny_ite_false (decide_eq_false (by rw [c1]; decide)) ?_; wp_walk using wpAny_loadPart' hl)
    | (refine wpAny_ite_true (decide_eq_true c2) ?_; wp_walk using wpAny_loadPart' hl))
  exact ⟨_, rfl, h⟩
/-- a tuple times k, a new one: up to 4000000 items -/
theorem rep_new {X : Cx} {pins : List (Addr × Obj)} {s : Shared} {σ : L2.St} {H : Hp} {l : Addr} {k : Int} {t : Tok} {xs : List V} {Q : VK} (I : Inv X pins σ H s) (hT : SqT X.K H l xs) (hne : xs ≠ []) (h1 : 2 ≤ k) (h2 : k ≤ 4000) (hz : xs.length ≤ 1000)
    (q : ∀ p, H p = none → Q (.ref p) (upd H p (.tup (List.replicate k.toNat xs).flatten))) : wpAny (model X.prog X.w) X.A (binaryOp .Mult (.ref l) (.int k t)) (EP X pins σ Q) X.xe s := by
  obtain ⟨its, r, ⟨⟨_, dd, _, sl⟩, ho, rfl, n, rfl⟩, hs⟩ := I.tuple hT
  have le : its.length = xs.length := r.length.symm
  have size : its.toArray.size = xs.length := le
  have full : its.toArray.isEmpty = false := by
    cases its with
    | nil => exact absurd (List.eq_nil_of_length_eq_zero le.symm) hne
    | cons _ _ => rfl
  have most : k.toNat * xs.length ≤ 4000 * 1000 := Nat.mul_le_mul (by omega) hz
  have mosti : ((its.toArray.size : Nat) : Int) * k ≤ 4000000 := by
    have e : ((its.toArray.size : Nat) : Int) * k = ((k.toNat * xs.length : Nat) : Int) := by
      rw [size, Int.natCast_mul, Int.toNat_of_nonneg (by omega), Int.mul_comm]
    rw [e]; omega
  have c0 : (decide (k < -(2 ^ 63)) || decide (k ≥ 2 ^ 63)) = false := by simp; omega
  have c1 : (its.toArray.isEmpty || k == 1) = false := by rw [full]; simp; omega
  have c2 : (decide (k ≤ 0) || its.toArray.isEmpty) = false := by rw [full]; simp; omega
  have c4 : Builtin.Tuple.tupleTooMany (((its.toArray.size : Nat) : Int) * k) = false := by
    unfold Builtin.Tuple.tupleTooMany
    rw [sizeLine_eq]
    exact decide_eq_false (by omega)
  have fit : ∀ {α : Type} (ys : List α), ys.length = xs.length → (List.replicate k.toNat ys).flatten.length ≤ sizeLine := fun ys e => by
    rw [PyProof.Rows.lm_len_rep_flat, e, sizeLine_eq]; omega
  have mul := tuple_mulW l its.toArray n dd sl k t c0 c1 c2 (by omega) c4 (by rw [size_rep, List.size_toArray]; exact fit its le)
  rw [size_rep] at mul
  refine wpAny_binaryOp_repeat_ref (T := "tuple") (U := "int") (by decide) ⟨_, ho, rfl⟩ (fun s' => typeIs_int s' k t) noFill_tuple_mul F.fills_int_mul F.slot_int_rmul repeat_tuple F.slot_int_index.lookup
    (call_meets F.slot_int_rmul (typeIs_int s k t) F.entry_int_rmul (F.args_int_rmul_2 _ _) (int_rmul_tuple k t l its.toArray n dd sl)
      ⟨ho, rfl, ⟨_, ho, rfl⟩, call_meets F.slot_tuple_mul ⟨_, ho, rfl⟩ F.entry_tuple_mul (F.args_tuple_mul_2 _ _) mul ⟨ho, ?_⟩⟩)
  exact ⟨.ref s.heap.objs.size, _, I.laid (t' := s.toks) (o := .tup (List.replicate k.toNat xs).flatten) (fun b ob q => Heap.get?_push_of_some _ q) (Nat.le_refl _) ⟨fit xs rfl, _, r.rep k.toNat, IsTup.new _ _⟩, rfl, q _ (I.hok.fresh (Nat.le_refl _))⟩
/-- a tuple times any k to 100000: itself, or a new one -/
def rMulT (K : PySem.W.Frag) : R2 := fun x y H Q => ∃ l k xs, x = .ref l ∧ y = .int k ∧ SqT K H l xs ∧ k ≤ 4000 ∧ -1000 ≤ k ∧ xs.length ≤ 1000 ∧ (xs = [] → Q (.ref l) H) ∧ (k = 1 → Q (.ref l) H) ∧ (xs ≠ [] → k ≠ 1 → ∀ p, H p = none → Q (.ref p) (upd H p (.tup (List.replicate k.toNat xs).flatten)))
theorem op_mulT {X : Cx} : OpR X (binaryOp .Mult) (rMulT X.K) := by
  intro pins s σ H x y v u Q I rx ry h
  obtain ⟨l, k, xs, rfl, rfl, hT, h2, h1, hz, q0, q1, q2⟩ := h
  by_cases big : xs ≠ [] ∧ 2 ≤ k
  · cases rx
    obtain ⟨t, rfl⟩ := ry
    exact rep_new I hT big.1 big.2 h2 hz (q2 big.1 (by omega))
  · cases rx
    obtain ⟨t, rfl⟩ := ry
    obtain ⟨its, r, ⟨⟨cls, dd, data, sl⟩, ho, hc, n, hd⟩, hs⟩ := I.tuple hT
    simp only at hc hd
    subst hc hd
    have hle : its.length = xs.length := r.length.symm
    have c0 : (decide (k < -(2 ^ 63)) || decide (k ≥ 2 ^ 63)) = false := by
      rw [decide_eq_false (by omega), decide_eq_false (by omega)]; rfl
    by_cases one : xs = [] ∨ k = 1
    · have c1 : (its.toArray.isEmpty || k == 1) = true := by
        rcases one with e | e
        · have : its = [] := List.eq_nil_of_length_eq_zero (by rw [hle, e]; rfl)
          rw [this]; rfl
        · rw [e]; simp
      refine wpAny_binaryOp_repeat_ref (T := "tuple") (U := "int") (by decide) ⟨_, ho, rfl⟩ (fun s' => typeIs_int s' k t) noFill_tuple_mul F.fills_int_mul F.slot_int_rmul repeat_tuple F.slot_int_index.lookup
        (call_meets F.slot_int_rmul (typeIs_int s k t) F.entry_int_rmul (F.args_int_rmul_2 _ _) (int_rmul_tuple k t l its.toArray n dd sl)
          ⟨ho, rfl, ⟨_, ho, rfl⟩, call_meets F.slot_tuple_mul ⟨_, ho, rfl⟩ F.entry_tuple_mul (F.args_tuple_mul_2 _ _) (mulT_same l its.toArray n dd sl k t c0 c1) ⟨ho, ?_⟩⟩)
      refine ⟨.ref l, H, I, rfl, ?_⟩
      rcases one with e | e
      · exact q0 e
      · exact q1 e
    · have n1 : xs ≠ [] := fun e => one (.inl e)
      have n2 : k ≠ 1 := fun e => one (.inr e)
      have k0 : k ≤ 0 := by
        by_cases z : 2 ≤ k
        · exact absurd ⟨n1, z⟩ big
        · omega
      have hi : its.toArray.isEmpty = false := by
        cases its with
        | nil => exact absurd (List.eq_nil_of_length_eq_zero hle.symm) n1
        | cons a b => rfl
      have c1 : (its.toArray.isEmpty || k == 1) = false := by
        rw [hi, Bool.false_or]
        exact beq_eq_false_iff_ne.mpr n2
      have c2 : (decide (k ≤ 0) || its.toArray.isEmpty) = true := by rw [decide_eq_true k0]; rfl
      have e0 : k.toNat = 0 := by omega
      have q := q2 n1 n2
      rw [e0] at q
      refine wpAny_binaryOp_repeat_ref (T := "tuple") (U := "int") (by decide) ⟨_, ho, rfl⟩ (fun s' => typeIs_int s' k t) noFill_tuple_mul F.fills_int_mul F.slot_int_rmul repeat_tuple F.slot_int_index.lookup
        (call_meets F.slot_int_rmul (typeIs_int s k t) F.entry_int_rmul (F.args_int_rmul_2 _ _) (int_rmul_tuple k t l its.toArray n dd sl)
          ⟨ho, rfl, ⟨_, ho, rfl⟩, call_meets F.slot_tuple_mul ⟨_, ho, rfl⟩ F.entry_tuple_mul (F.args_tuple_mul_2 _ _) (mulT_none l its.toArray n dd sl k t c0 c1 c2) ⟨ho, ?_⟩⟩)
      refine ⟨.ref s.heap.objs.size, _, I.laid (t' := s.toks) (o := .tup []) (fun b ob q => Heap.get?_push_of_some _ q) (Nat.le_refl _) ?_, rfl, q _ (I.hok.fresh (Nat.le_refl _))⟩
      exact ⟨by decide, [], .nil, IsTup.new _ _⟩
end L2
namespace DL
open PySem L2
def rMulA (K : PySem.W.Frag) : R2 := fun x y H Q => rMulU x y H Q ∨ rMulT K x y H Q
theorem op_mulA {X : Cx} {K : PySem.W.Frag} (e : X.K = K := by rfl) : OpR X (binaryOp .Mult) (rMulA K) := by subst e; exact OpR.or op_mulU op_mulT
section
variable {K : PySem.W.Frag} {te ta tb : TE} {env e e1 e2 : Env} {r r1 r2 r' : Res} {i j : Int} {d d1 d2 : D} {l m : List D} {o o' : OB} {n : Nat}
/-- enumerate(xs) -/
def enumD (l : List D) : List D := (List.range l.length).map fun i => .tup [.int (i : Nat), l.getD i .non]
theorem enumD_len : (enumD l).length = l.length := by simp [enumD]
theorem enumD_get {i : Nat} (h : (enumD l)[i]? = some d) : ∃ x, l[i]? = some x ∧ d = .tup [.int (i : Nat), x] := by
  unfold enumD at h
  rw [List.getElem?_map] at h
  obtain ⟨k, hk, rfl⟩ := Option.map_eq_some_iff.mp h
  obtain ⟨h1, h2⟩ := List.getElem?_eq_some_iff.mp hk
  rw [List.length_range] at h1
  rw [List.getElem_range] at h2
  subst h2
  exact ⟨l[i], by simp [h1], by rw [List.getD_eq_getElem?_getD, List.getElem?_eq_getElem h1]; rfl⟩
def zipD (l m : List D) : List D := (l.zip m).map fun p => .tup [p.1, p.2]
end
/-! ### defs whose first argument is an object that they change -/
def PO (f : OB → List D → Ret → OB → Prop) : List AV → Ret → List AV → Prop := fun as r as' => ∃ o ds o', as = .own o :: ds.map AV.val ∧ as' = .own o' :: ds.map AV.val ∧ f o ds r o'
section
variable {K : PySem.W.Frag} {ta : TA} {env e1 : Env} {rs : List Res} {ds : List D} {d : D} {o o' ob : OB} {i : Nat} {f : OB → List D → Ret → OB → Prop} {E : XK}
end
section
variable {P : Program} {w : World} {K : PySem.W.Frag} {mg : Str → Option Value} {base : Heap} {x qn : Str} {st : Stmt} {fa : Addr} {fd : FuncData} {N ps : List Str} {k : Nat}
theorem Fn.ofO {f : OB → List D → Ret → OB → Prop} (F : Fun K x qn st fa fd) (S : FnScope N ps (defScope st)) (hn : ∀ o ds r o', f o ds r o' → ds.length + 1 = ps.length)
    (body : ∀ (cdv : Value) (A : Around) (outer : List PySem.Env) (s : Shared) (H : Hp) (E : XK), Room k (A.deeper (PyProof.Rows.envOfC qn (defScope st) s.heap.objs.size fa cdv)) →
      ∃ t, PSs (cxOf CX0 P w K mg base N qn (defScope st) fa cdv A outer s H E).nox (defBody st) t ∧ ∀ o ds r o', f o ds r o' → Exec K [0] (fun cls d _ H => E cls d H) t (EV.own o :: ds.map EV.val ++ List.replicate (N.length - ps.length) .any)
      (fun e => r = .val .non ∧ e[0]? = some (.own o')) (fun _ => False) (fun _ => False) (fun q e => q = r ∧ e[0]? = some (.own o'))) : FnOk P w K mg base CX0 (k + 1) fa fd ps (SpG K (PO f)) :=
  Fn.ofG F S (fun as r as' ⟨o, ds, o', h1, _, h4⟩ => by rw [h1, List.length_cons, List.length_map]; exact hn o ds r o' h4) fun cdv A outer s H E hr => by
    obtain ⟨t, h1, h2⟩ := body cdv A outer s H E hr
    refine ⟨t, h1, fun as r as' ⟨o, ds, o', e1, e2, hf⟩ => ⟨[0], fun i ob h => ?_, ?_⟩⟩
    · subst e1
      cases i with
      | zero => exact List.mem_cons_self
      | succ i => rw [List.getElem?_cons_succ] at h; exact absurd h vals_noOwn
    subst e1 e2
    have held : ∀ e : Env, e[0]? = some (.own o') → Held (.own o :: ds.map AV.val) (.own o' :: ds.map AV.val) e := fun e he i ob h => by
      cases i with
      | zero => exact ⟨o', rfl, he⟩
      | succ i => rw [List.getElem?_cons_succ] at h; exact absurd h vals_noOwn
    have em : (AV.own o :: ds.map AV.val).map AV.ev = EV.own o :: ds.map EV.val := by rw [List.map_cons, List.map_map]; rfl
    rw [em]
    exact x_mono (h2 o ds r o' hf) (fun e h => ⟨h.1, held e h.2⟩) (fun _ h => h) (fun _ h => h) fun q e h => ⟨h.1, held e h.2⟩
end
end DL

namespace DL
open PySem L2
/-! ### a comprehension whose part changes the object in the first slot -/
section
variable {K : PySem.W.Frag} {te : TE} {wi : TI} {env R : Env} {k : Nat} {ds : List D}
end
end DL

/-! ### xs.insert, a list times n, isinstance of several classes -/
namespace L2
open PySem
end L2
namespace DL
open PySem L2
section
variable {K : PySem.W.Frag} {pr : List Nat} {W : WX} {te ta tb : TE} {ts : TA} {env e1 e2 e : Env} {r : Res} {i : Nat} {l m : List D} {N B C : Env → Prop} {R : Ret → Env → Prop} {n j : Int} {d : D} {c : Bool}
end
end DL
namespace DL
open PySem L2
theorem ixN_nat {n i : Nat} (h : i < n) : ixN n (i : Int) = some i := by
  unfold ixN
  rw [if_pos (by omega), if_pos (by omega)]; rfl
end DL
namespace DL
open PySem L2
end DL

/-! ### len(set(xs)), xs.pop(i), xs.remove(x), xs[::-1], objects lent to a call -/
namespace L2
open PySem PySem.Spec PyProof.Rows
/-- how many unlike ones -/
def unlike (ns : List Int) : Nat := (PyProof.Rows.firstMet (fun i => ns.getD i 0) ns.length).length
end L2
namespace DL
open PySem L2
section
variable {K : PySem.W.Frag} {pr : List Nat} {W : WX} {te ta tb : TE} {ts : TA} {env e1 e2 e : Env} {r : Res} {i : Nat} {l m : List D} {N B C : Env → Prop} {R : Ret → Env → Prop} {n j : Int} {d : D} {c : Bool} {ns : List Int} {o : OB} {ds : List D} {rs : List Res}
theorem RepL.eraseIdx {F : Hp} : ∀ {vs : List V} {ds : List D} (n : Nat), RepL K F vs ds → RepL K F (vs.eraseIdx n) (ds.eraseIdx n)
  | _, _, _, .nil => .nil
  | _, _, 0, .cons _ r => r
  | _, _, n + 1, .cons q r => .cons q (RepL.eraseIdx n r)
/-- what each argument reads -/
inductive Rds (env : Env) : List Res → List D → Prop
  | nil : Rds env [] []
  | cons {r : Res} {d : D} {rs : List Res} {ds : List D} : Rd env r d → Rds env rs ds → Rds env (r :: rs) (d :: ds)
theorem Rds.rep {b : Bs} {F : Hp} {oa : Nat → Addr} {σ : L2.St} {H : Hp} (S : Sig K b F oa σ H env) : ∀ {vs : List V} {rs : List Res} {ds : List D}, RRs K F oa vs rs → Rds env rs ds → vs.length = ds.length ∧ ∀ (i : Nat) (d : D), ds[i]? = some d → ∃ v, vs[i]? = some v ∧ Rep K H v d
  | [], _, _, h, .nil => ⟨rfl, fun i d hi => by simp at hi⟩
  | _ :: _, _, _, h, .nil => h.elim
  | [], _, _, h, .cons _ _ => h.elim
  | v :: vs, _, _, h, .cons q t => by
    obtain ⟨h1, h2⟩ := Rds.rep S h.2 t
    refine ⟨by rw [List.length_cons, List.length_cons, h1], fun i d hi => ?_⟩
    cases i with
    | zero => simp at hi; subst hi; exact ⟨v, rfl, q.rep S h.1⟩
    | succ i => simp at hi; exact h2 i d hi
end
end DL

/-! ### xs[k] += n; in, of data of any depth; more that raises -/
namespace L2
open PySem PySem.Spec PyProof.Rows
def rGetN (K : PySem.W.Frag) : V → V → Hp → VK → Prop := fun o i H Q => ∃ (p : Addr) (xs : List V) (n : Nat) (v : V), o = .ref p ∧ i = .int (n : Nat) ∧ SqL K H p xs ∧ xs[n]? = some v ∧ Q v H
theorem get_listN {X : Cx} : PGet X (rGetN X.K) := by
  intro pins s σ H o i ov iv Q I r1 r2 h
  obtain ⟨p, xs, n, v, rfl, rfl, hq, he, q⟩ := h
  cases r1
  obtain ⟨t, rfl⟩ := r2
  obtain ⟨its, r, pl, hz⟩ := I.list hq
  obtain ⟨w, ew, rw'⟩ := r.get he
  have hl := r.length
  have hn := line63
  have hlt : n < xs.length := (List.getElem?_eq_some_iff.mp he).1
  exact wpAny_getItem_list pl.isList (by omega) (by omega) (by simpa using ew) ⟨v, H, I, rw', q⟩
theorem get_listK {X : Cx} {K : PySem.W.Frag} (e : X.K = K := by rfl) : PGet X (rGetN K) := by subst e; exact get_listN
end L2
namespace DL
open PySem L2
section
variable {X : Cx} {k j : Nat} {x : Str} {sp : Sp} {p pos : Pos}
end
theorem room65 {k : Nat} {A : Around} (r : Room k A) : A.units + 65 < cLine := by have := r.un; omega
section
variable {K : PySem.W.Frag} {pr : List Nat} {W : WX} {te ta tb to : TE} {ts : TA} {env e1 e2 e : Env} {r r1 r2 : Res} {i : Nat} {l m : List D} {N B C : Env → Prop} {R : Ret → Env → Prop} {n j k0 : Int} {d : D} {c : Bool} {X : Addr} {t u : TT}
/-! raising in parts -/
end
end DL

/-! ### instances of own classes: made, read, written -/
namespace DL
open PySem L2
section
variable {K : PySem.W.Frag} {F : Hp}
end
section
variable {K : PySem.W.Frag} {pr : List Nat} {W : WX} {te ta tv : TE} {ts : TA} {env e1 e2 e : Env} {r : Res} {rs : List Res} {i : Nat} {N B C : Env → Prop} {R : Ret → Env → Prop} {d : D} {ds : List D} {Cc : Addr} {fs : List (Str × D)} {f : Str} {o : OB}
end
/-- a class whose instances are made by a call of its name -/
structure Mf (P : Program) (w : World) (K : PySem.W.Frag) (mg : Str → Option Value) (base : Heap) (k : Nat) (x : Str) (C : Addr) (sp : Sp) : Prop where
  ex : ∃ (f : Addr) (fd : FuncData) (ps : List Str), Mk K C f ∧ FnOk P w K mg base CX0 k f fd ps sp ∧ mg x = some (.ref C) ∧ Binds K fd ps []
section
variable {X : Cx} {k j : Nat} {x : Str} {C : Addr} {sp : Sp} {p pos : Pos} {e : Expr} {es : List Expr} {t : TA}
end
theorem Mf.of {P : Program} {w : World} {K : PySem.W.Frag} {mg : Str → Option Value} {base : Heap} {k : Nat} {x : Str} {C fa : Addr} {fd : FuncData} {ps : List Str} {sp : Sp} (M : Mk K C fa) (h : FnOk P w K mg base CX0 k fa fd ps sp) (hm : mg x = some (.ref C)) (b : Binds K fd ps []) : Mf P w K mg base k x C sp := ⟨fa, fd, ps, M, h, hm, b⟩
end DL
namespace DL
open PySem L2
/-! ### try: .. except C: .. -/
def tTryO (K : PySem.W.Frag) (c : Value) (ts : TS) (tb : WX → TS) : TS := fun D σ H => tb (wOnly K c (fun _ _ _ => ts) (fun _ _ _ _ => False) D) D σ H
section
variable {K : PySem.W.Frag} {pr : List Nat} {W : WX} {env : Env} {N B C M : Env → Prop} {R : Ret → Env → Prop} {c : Value} {tb : WX → TS} {ts : TS}
end
end DL
namespace L2
open PySem PySem.Spec PyProof.Rows
theorem noI_tuple_add : typeLookup (.type "tuple") (dunderI "add") = pure none := by rw [typeLookup_type, builtinLookup_eq_fast]; kernel_rfl
section
variable {prog : Program} {w : World} {A : Around} {E : Value → Shared → Prop} {s : Shared}
theorem icat_tup {t b : Addr} {vs ws : List Value} {Q : Value → Shared → Prop} (ht : IsTup s.heap t vs.toArray) (hb : IsTup s.heap b ws.toArray) (hv : vs ≠ [])
    (h1 : ws = [] → Q (.ref t) s) (h2 : ws ≠ [] → Q (.ref s.heap.objs.size) { s with heap := s.heap.push { cls := .type "tuple", data := .seq (vs ++ ws).toArray } })
    (hsz : vs.length + ws.length ≤ sizeLine) : wpAny (model prog w) A (inplaceOp .Add (.ref t) (.ref b)) Q E s := by
  obtain ⟨⟨cls, dd, data, sl⟩, ho, hc, n, hd⟩ := id ht
  obtain ⟨⟨cls2, dd2, data2, sl2⟩, ho2, hc2, n2, hd2⟩ := id hb
  simp only at hc hd hc2 hd2
  subst hc hd hc2 hd2
  have e : vs.toArray ++ ws.toArray = (vs ++ ws).toArray := by simp
  by_cases hw : ws = []
  · exact wpAny_inplaceOp_concat ⟨_, ho, rfl⟩ ⟨_, ho2, rfl⟩ noI_tuple_add noFill_tuple_add seq_tuple_add (call_meets PySem.F.slot_tuple_add ⟨_, ho, rfl⟩ PySem.F.entry_tuple_add (PySem.F.args_tuple_add_2 _ _)
      (tuple_addW1 t b vs.toArray ws.toArray n n2 dd dd2 sl sl2 (by simpa using hv) (by simp [hw])) ⟨ho, ho2, h1 hw⟩)
  · refine wpAny_inplaceOp_concat ⟨_, ho, rfl⟩ ⟨_, ho2, rfl⟩ noI_tuple_add noFill_tuple_add seq_tuple_add (call_meets PySem.F.slot_tuple_add ⟨_, ho, rfl⟩ PySem.F.entry_tuple_add (PySem.F.args_tuple_add_2 _ _)
      (tuple_addW2 t b vs.toArray ws.toArray n n2 dd dd2 sl sl2 (by simpa using hv) (by simpa using hw) (by rw [List.size_toArray, List.size_toArray]; exact hsz)) ⟨ho, ho2, ?_⟩)
    rw [e]
    exact h2 hw
end
theorem iop_catT {X : Cx} : OpR X (inplaceOp .Add) (rCatT X.K) := by
  intro pins s σ H x y v u Q I rx ry h
  obtain ⟨a, b, xs, ys, rfl, rfl, ha, hb, hx, hz, q1, q2⟩ := h
  cases rx
  cases ry
  obtain ⟨its, r1, p1, _⟩ := I.tuple ha
  obtain ⟨its2, r2, p2, _⟩ := I.tuple hb
  refine icat_tup p1 p2 (fun z => hx (r1.nil_iff.mp z)) (fun z => ⟨.ref a, H, I, rfl, q1 (r2.nil_iff.mp z)⟩) (fun z => ?_) (by rw [← r1.length, ← r2.length]; exact hz)
  refine ⟨.ref s.heap.objs.size, _, I.laid (t' := s.toks) (o := .tup (xs ++ ys)) (fun b ob q => Heap.get?_push_of_some _ q) (Nat.le_refl _) ?_, rfl, q2 (fun w => z (r2.nil_iff.mpr w)) _ (I.hok.fresh (Nat.le_refl _))⟩
  exact ⟨by rw [List.length_append]; exact hz, _, r1.append r2, IsTup.new _ _⟩
end L2
namespace DL
open PySem L2
def ipAddT (K : PySem.W.Frag) : TIp := fun x y H Q => ipAddU x y H Q ∨ rCatT K x y H Q
theorem ip_addT {X : Cx} {K : PySem.W.Frag} (e : X.K = K := by rfl) : PIp X .Add (ipAddT K) := by
  subst e
  intro pins s σ H x y v u Q I rx ry h
  rcases h with h | h
  · exact ip_addU pins s σ H x y v u Q I rx ry h
  · exact iop_catT pins s σ H x y v u Q I rx ry h
section
variable {K : PySem.W.Frag} {pr : List Nat} {W : WX} {te : TE} {env e1 : Env} {i : Nat} {l m : List D} {N B C : Env → Prop} {R : Ret → Env → Prop}
end
end DL

/-! ### repr of tuples, where nothing is under way: in the law's own def, called from the top -/
namespace L2
open PySem PySem.Spec PyProof.Rows
/-- what a def promises where it is called from the top -/
structure RunC (P : Program) (w : World) (K : PySem.W.Frag) (mg : Str → Option Value) (base : Heap) (CX : CXT) (f : Addr) (fd : FuncData) (ps : List Str) (sp : Sp) : Prop where
  run : ∀ (outer : List Env) (s : Shared) (H : Hp) (args : Args) (us : List Value) (vs : List V) (Q : VK) (E : XK), Env0 P w K mg base callerA outer s H → BindsTo s fd args (ps.zip us) → Vals vs us → sp vs H Q E →
    codeAny (model P w) callerA (.call (.ref f) args) (CR CX outer P w H s Q E) s
theorem RunC.imp {P : Program} {w : World} {K : PySem.W.Frag} {mg : Str → Option Value} {base : Heap} {CX : CXT} {f : Addr} {fd : FuncData} {ps : List Str} {sp sp' : Sp} (R : RunC P w K mg base CX f fd ps sp) (h : ∀ vs H Q E, sp' vs H Q E → sp vs H Q E) : RunC P w K mg base CX f fd ps sp' :=
  ⟨fun outer s H args us vs Q E e b r q => R.run outer s H args us vs Q E e b r (h _ _ _ _ q)⟩
end L2

namespace DL
open PySem L2
/-! ### what repr shows of data -/
section
variable {K : PySem.W.Frag} {e : Env} {r : Res} {l : List D}
end
section
variable {P : Program} {w : World} {K : PySem.W.Frag} {mg : Str → Option Value} {base : Heap} {x qn : Str} {st : Stmt} {fa : Addr} {fd : FuncData} {N ps : List Str} {k : Nat}
end
end DL

/-! ### methods of own classes that only read; isinstance of an instance -/
namespace DL
open PySem L2
/-- a method -/
structure Mt (P : Program) (w : World) (K : PySem.W.Frag) (mg : Str → Option Value) (base : Heap) (k : Nat) (C : Addr) (m : Str) (sp : Sp) : Prop where
  ex : ∃ (f : Addr) (fd : FuncData) (ps : List Str), Meth K C m f ∧ FnOk P w K mg base CX0 k f fd ps sp ∧ Binds K fd ps []
theorem Mt.of {P : Program} {w : World} {K : PySem.W.Frag} {mg : Str → Option Value} {base : Heap} {k : Nat} {m : Str} {C fa : Addr} {fd : FuncData} {ps : List Str} {sp : Sp} (M : Meth K C m fa) (h : FnOk P w K mg base CX0 k fa fd ps sp) (b : Binds K fd ps []) : Mt P w K mg base k C m sp := ⟨fa, fd, ps, M, h, b⟩
section
variable {X : Cx} {k j : Nat} {m : Str} {C : Addr} {sp : Sp} {apos pos : Pos} {o e : Expr} {es : List Expr} {t : TA} {ta : TE}
end
section
variable {K : PySem.W.Frag} {env e e1 e2 : Env} {f : List D → D → Prop} {rs : List Res} {ds : List D} {d : D} {ta : TE} {ts : TA} {E : XK} {Cc : Addr} {m : Str} {fs : List (Str × D)}
/-- what isinstance asks of an own class -/
structure InC (K : PySem.W.Frag) (C : Addr) : Prop where
  cl : Cls K C
  ha : PySem.W.findIn K (.ref C) "__class__" = some (some (.builtin "object.__class__"))
  hn : PySem.W.specialIn K (.builtin "object.__class__") "__get__" = some (some (.builtin "getset_descriptor.__get__"))
  ht : PySem.W.takesIn K (.builtin "object.__class__") = some true
  hm : PySem.W.mroIn K C (.type "object") = some true
end
end DL
/-! ### repr of tuples, ints and texts, at the top -/
namespace DL
open PySem L2
section
variable {K : PySem.W.Frag} {e : Env} {r : Res} {l : List D} {i : Int} {x : Str}
end
end DL

/-! ### instances made by an __init__ that may raise -/
namespace L2
open PySem PySem.Spec PyProof.Rows
section
variable {X : Cx} {CX : CXT} {k : Nat} {f C : Addr} {fd : FuncData} {ps : List Str} {sp : Sp} {E : St → XK} {x : Str} {p pos : Pos} {e : Expr} {es : List Expr} {t : TA}
theorem run_makeS {pins : List (Addr × Obj)} {σ : St} {H : Hp} {s : Shared} {Q : VK} {us : List Value} {vs : List V} (M : Mk X.K C f) (F : FnOk X.prog X.w X.K X.mg X.base CX k f fd ps sp) (hr : Room (k + 1) X.A) (hb : Binds X.K fd ps [])
    (hx : PassesAt CX X σ (E σ)) (I : Inv X pins σ H s) (r : Vals vs us)
    (h : ∀ x dx, H x = none → H dx = none → dx ≠ x → sp (.ref x :: vs) (upd (upd H dx (.own x)) x (.ins C dx [])) (fun v H2 => v = .non ∧ Q (.ref x) H2) (E σ)) :
    wpAny (model X.prog X.w) X.A (call (.ref C) us) (EP X pins σ Q) X.xe s := by
  have hq := h (s.heap.objs.size + 1) s.heap.objs.size (I.hok.fresh (Nat.le_succ _)) (I.hok.fresh (Nat.le_refl _)) (Nat.ne_of_lt (Nat.lt_succ_self _))
  have I2 := Inv.made (C := C) I
  have r2 : Vals (V.ref (s.heap.objs.size + 1) :: vs) (Value.ref (s.heap.objs.size + 1) :: us) := .cons rfl r
  have hl : (Value.ref (s.heap.objs.size + 1) :: us).length = ps.length := by
    have e := r2.length
    rw [F.len _ _ _ _ hq] at e
    exact e.symm
  have b := hb _ (Value.ref (s.heap.objs.size + 1) :: us) I2.kIn (by rw [List.append_nil]; exact hl)
  rw [List.append_nil] at b
  refine wpAny_call (make_map (f := f) I.kIn M.makes M.init (beq_iff_eq.mp M.fn) (codeAny_mono (F.run _ X.stack _ _ ⟨Value.ref (s.heap.objs.size + 1) :: us, []⟩ (Value.ref (s.heap.objs.size + 1) :: us) _ _ (E σ) (hr.make C us [])
    (I2.env0.make C us []) b r2 hq) fun r s' hq' => ?_))
  cases r with
  | error e => exact hx pins _ _ e s' I2 hq'
  | ok fl =>
    cases fl with
    | ret u =>
      obtain ⟨v, H', I3, rv, ev, q3⟩ := I2.after hq'
      subst ev
      exact ⟨rv, ⟨V.ref (s.heap.objs.size + 1), H', I3, rfl, q3⟩⟩
    | next => exact False.elim hq'
    | brk => exact False.elim hq'
    | cont => exact False.elim hq'
def tMakeS (C : Addr) (sp : Sp) (E : St → XK) (t : TA) : TE := fun σ H Q => t σ H fun vs H1 => ∀ x dx, H1 x = none → H1 dx = none → dx ≠ x →
  sp (.ref x :: vs) (upd (upd H1 dx (.own x)) x (.ins C dx [])) (fun v H2 => v = .non ∧ Q (.ref x) H2) (E σ)
theorem pe_makeS (M : Mk X.K C f) (F : FnOk X.prog X.w X.K X.mg X.base CX k f fd ps sp) (hr : Room (k + 1) X.A) (hg : Gl X x) (hm : X.mg x = some (.ref C)) (hb : Binds X.K fd ps []) (hx : ∀ σ, PassesAt CX X σ (E σ))
    (ha : PA X (e :: es) t) (hdb : (x == ("__debug__" : Str)) = false := by decide) (he : starEach (e :: es) X.env = (false, eval e X.env) :: starEach es X.env := by rfl) (hpl : (backTo pos (starEach es X.env)).any (·.1) = false := by rfl) :
    PE X (.Call (.Name x p) (e :: es) [] pos) (tMakeS C sp E t) := by
  refine ⟨fun pins s σ H Q I h => ?_⟩
  refine wpAny_Call_Name_kw (ld_glob I hg hm ?_ hdb)
  refine PySem.W.callWith_K (h₀ := X.base) I.ok.mod.kin M.kp (thn (ha.run pos pins s σ H _ I h) fun us s1 ⟨vs, H1, I1, r, q⟩ => ⟨I1.kIn, ?_⟩) he hpl
  exact run_makeS M F hr hb (hx σ) I1 r q
end
end L2
namespace DL
open PySem L2
structure Mx (P : Program) (w : World) (K : PySem.W.Frag) (mg : Str → Option Value) (base : Heap) (k : Nat) (x : Str) (C : Addr) (sp : Sp) : Prop where
  ex : ∃ (f : Addr) (fd : FuncData) (ps : List Str), Mk K C f ∧ FnOk P w K mg base (L2.CX P w) k f fd ps sp ∧ mg x = some (.ref C) ∧ Binds K fd ps []
theorem Mx.of {P : Program} {w : World} {K : PySem.W.Frag} {mg : Str → Option Value} {base : Heap} {k : Nat} {x : Str} {C fa : Addr} {fd : FuncData} {ps : List Str} {sp : Sp} (M : Mk K C fa) (h : FnOk P w K mg base (L2.CX P w) k fa fd ps sp) (hm : mg x = some (.ref C)) (b : Binds K fd ps []) : Mx P w K mg base k x C sp := ⟨fa, fd, ps, M, h, hm, b⟩
section
variable {X : Cx} {W : WX} {k j : Nat} {x : Str} {C : Addr} {sp : Sp} {p pos : Pos} {e : Expr} {es : List Expr} {t : TA}
theorem pe_mx (c : Mx X.prog X.w X.K X.mg X.base k x C sp) (tk : Takes X W) (hr : Room j X.A) (hk : k + 1 ≤ j) (hg : Gl X x) (ha : PA X (e :: es) t)
    (hdb : (x == ("__debug__" : Str)) = false := by decide) (he : starEach (e :: es) X.env = (false, eval e X.env) :: starEach es X.env := by rfl) (hpl : (backTo pos (starEach es X.env)).any (·.1) = false := by rfl) :
    PE X (.Call (.Name x p) (e :: es) [] pos) (tMakeS C sp (WE W) t) := by
  obtain ⟨f, fd, ps, M, F, hm, b⟩ := c.ex
  exact pe_makeS M F (hr.mono hk) hg hm b (fun σ => passAt tk σ) ha hdb he hpl
/-- .. and does not raise, where it is made -/
theorem pe_mx0 (c : Mx X.prog X.w X.K X.mg X.base k x C sp) (hr : Room j X.A) (hk : k + 1 ≤ j) (hg : Gl X x) (ha : PA X (e :: es) t)
    (hdb : (x == ("__debug__" : Str)) = false := by decide) (he : starEach (e :: es) X.env = (false, eval e X.env) :: starEach es X.env := by rfl) (hpl : (backTo pos (starEach es X.env)).any (·.1) = false := by rfl) :
    PE X (.Call (.Name x p) (e :: es) [] pos) (tMake C sp [] E0 t) := by
  obtain ⟨f, fd, ps, M, F, hm, b⟩ := c.ex
  exact pe_make M F (hr.mono hk) hg hm b .nil passL ha hdb he hpl
end
section
variable {K : PySem.W.Frag} {pr : List Nat} {W : WX} {ts : TA} {env e1 : Env} {rs : List Res} {ds : List D} {Cc Ce : Addr} {fs : List (Str × D)} {b : Bs} {F1 H1 : Hp} {oa : Nat → Addr} {σ : L2.St} {vs : List V} {x dx : Addr}
end
section
variable {P : Program} {w : World} {K : PySem.W.Frag} {mg : Str → Option Value} {base : Heap} {x qn : Str} {st : Stmt} {fa : Addr} {fd : FuncData} {N ps : List Str} {k : Nat}
end
end DL

namespace DL
open PySem L2
/-! ### rows of bits, in plain Lean -/
def Bits (l : List Int) : Prop := ∀ b, b ∈ l → b = 0 ∨ b = 1
theorem Bits.nil : Bits [] := fun _ h => by cases h
theorem Bits.append {l m : List Int} (h1 : Bits l) (h2 : Bits m) : Bits (l ++ m) := fun b h => by
  rcases List.mem_append.mp h with q | q
  · exact h1 b q
  · exact h2 b q
/-! bytes in bits -/
def val (l : List Int) : Int := l.foldl (fun n b => n * 256 + b) 0
end DL
namespace DL
open PySem L2
theorem sIx_some {n d : Nat} {v : Int} (h : 0 ≤ v) : HT.sIx n d (some v) = min v.toNat n := by
  show (if v < 0 then (v + (n : Int)).toNat else min v.toNat n) = _
  rw [if_neg (by omega)]
end DL

/-! ### texts: one sign in a text, join, index; a written dict; reversed(range(n)) -/
namespace DL
open PySem L2
def rSign (neg : Bool) : R2 := fun x y H Q => ∃ (c : Nat) (z : Str), x = .str ⟨#[c]⟩ ∧ y = .str z ∧ Q (.bl (if neg then !decide (c ∈ z.cps.toList) else decide (c ∈ z.cps.toList))) H
def rJoin (K : PySem.W.Frag) : V → List V → Hp → VK → Prop := fun x xs H Q => ∃ a p, ∃ ys : List Str, x = .str a ∧ xs = [.ref p] ∧ (SqL K H p (ys.map V.str) ∨ SqT K H p (ys.map V.str)) ∧
    (ys.map (·.length)).sum + ys.length * a.length ≤ 16777216 ∧ Q (.str (Txt.join a ys)) H
def rIdxS : V → List V → Hp → VK → Prop := fun x xs H Q => ∃ (a b : Str) (k : Nat), x = .str a ∧ xs = [.str b] ∧ Txt.index0 a b = some k ∧ Q (.int (k : Nat)) H
section
variable {X : Cx} {o e : Expr} {to te : TE} {apos pos : Pos}
end
section
variable {K : PySem.W.Frag} {e env e1 e2 : Env} {to te : TE} {r : Res} {a b z : Str} {ys : List Str} {k : Nat} {c : Nat} {neg : Bool} {da : Addr} {w : World} {d : D} {n : Int}
end
end DL

/-! ## plain functions for the defs (no program in sight) -/
namespace SM
open PySem L2

/-- data; an object that may change is told by its place in a plain heap -/
inductive D where
  | non | bl (b : Bool) | int (i : Int) | str (x : Str) | ty (n : String)
  | tup (l : List D) | wt (l : List D) | scr (l : List D) | ref (i : Nat) | nm (x : String) | exc (C : String)
instance : Inhabited D := ⟨.non⟩
inductive O where
  | lst (l : List D)
  /-- t: its keys are tuples; lk: a loop walks it -/
  | dic (t lk : Bool) (kvs : List (D × D))
  | obj (C : String) (fs : List (String × D))
abbrev Hs := List O
abbrev Sl := List (Option D)
inductive RE (α : Type) where
  | ok (a : α) (A : Hs) | exc (C : String) (A : Hs) | stuck
def RE.bind {α β : Type} (r : RE α) (f : α → Hs → RE β) : RE β := match r with
  | .ok a A => f a A
  | .exc C A => .exc C A
  | .stuck => .stuck
/-- an exception has no road from here -/
def RE.noX {α : Type} : RE α → RE α
  | .ok a A => .ok a A
  | _ => .stuck
abbrev E := Sl → Hs → RE D
abbrev Tt := Sl → Hs → RE Bool
abbrev As := Sl → Hs → RE (List D)
abbrev Fn := List D → Hs → RE D
inductive RS where
  | nx (σ : Sl) (A : Hs) | bk (σ : Sl) (A : Hs) | ct (σ : Sl) (A : Hs) | rt (d : D) (A : Hs) | exc (C : String) (σ : Sl) (A : Hs) | stuck
abbrev S := Sl → Hs → RS
/-- a new object -/
def alloc (A : Hs) (o : O) : RE D := .ok (.ref A.length) (A ++ [o])

def eVar (i : Nat) : E := fun env A => match env[i]? with
  | some (some d) => .ok d A
  | _ => .stuck
def eC (d : D) : E := fun _ A => .ok d A
def eOp (o : D → D → Hs → RE D) (a b : E) : E := fun env A => (a env A).bind fun x A1 => (b env A1).bind fun y A2 => o x y A2
def eUn (o : D → Hs → RE D) (a : E) : E := fun env A => (a env A).bind fun x A1 => o x A1
def aNil : As := fun _ A => .ok [] A
def aCons (a : E) (as : As) : As := fun env A => (a env A).bind fun x A1 => (as env A1).bind fun xs A2 => .ok (x :: xs) A2
def eCB (f : List D → Hs → RE D) (as : As) : E := fun env A => (as env A).bind fun ds A1 => f ds A1
/-- a call where nothing that is raised has a road -/
def eCall0 (f : Fn) (as : As) : E := fun env A => (as env A).bind fun ds A1 => (f ds A1).noX
def eCall (f : Fn) (as : As) : E := fun env A => (as env A).bind fun ds A1 => f ds A1
def make (C : String) (f : Fn) (ds : List D) (A1 : Hs) : RE D := match f (.ref A1.length :: ds) (A1 ++ [.obj C []]) with
    | .ok .non A2 => .ok (.ref A1.length) A2
    | .exc X A2 => .exc X A2
    | _ => .stuck
def eMake0 (C : String) (f : Fn) (as : As) : E := fun env A => (as env A).bind fun ds A1 => (make C f ds A1).noX
def eMake (C : String) (f : Fn) (as : As) : E := fun env A => (as env A).bind fun ds A1 => make C f ds A1
/-- the class of an object, its fields -/
def objAt (A : Hs) : D → Option (String × List (String × D))
  | .ref i => match A[i]? with
    | some (.obj C fs) => some (C, fs)
    | _ => none
  | _ => none
/-- what holds of all -/
def AllC (P : String → Prop) : List String → Prop
  | [] => True
  | c :: r => P c ∧ AllC P r
theorem AllC.of {P : String → Prop} {c : String} : ∀ {l : List String}, AllC P l → c ∈ l → P c
  | _ :: r, h, q => by
    rcases List.mem_cons.mp q with z | z
    · rw [z]; exact h.1
    · exact AllC.of h.2 z
def methOf (m : String) (tbl : List (String × Fn)) (A : Hs) (x : D) : Option Fn := match objAt A x with
  | some (C, fs) => if (fs.lookup m).isSome then none else tbl.lookup C
  | none => none
def eMeth (m : String) (tbl : List (String × Fn)) (o : E) (as : As) : E := fun env A => (o env A).bind fun x A1 => match methOf m tbl A1 x with
  | some f => (as env A1).bind fun ds A2 => f (x :: ds) A2
  | none => .stuck
def eMeth0 (m : String) (tbl : List (String × Fn)) (o : E) (as : As) : E := fun env A => (o env A).bind fun x A1 => match methOf m tbl A1 x with
  | some f => (as env A1).bind fun ds A2 => (f (x :: ds) A2).noX
  | none => .stuck
/-- o.f, o of one of the classes cs -/
def getFld (cs : List String) (f : String) (A : Hs) (x : D) : Option D := match objAt A x with
  | some (C, fs) => if C ∈ cs then fs.lookup f else none
  | none => none
def eFld (cs : List String) (f : String) (o : E) : E := fun env A => (o env A).bind fun x A1 => match getFld cs f A1 x with
  | some d => .ok d A1
  | none => .stuck
def eAnd (a b : E) : E := fun env A => (a env A).bind fun x A1 => match x with
  | .bl true => b env A1
  | .bl false => .ok (.bl false) A1
  | _ => .stuck
def eOr (a b : E) : E := fun env A => (a env A).bind fun x A1 => match x with
  | .bl false => b env A1
  | .bl true => .ok (.bl true) A1
  | _ => .stuck
def eNot (a : E) : E := fun env A => (a env A).bind fun x A1 => match x with
  | .bl c => .ok (.bl (!c)) A1
  | _ => .stuck
/-- a < b < c -/
def eCh (o o' : D → D → Hs → RE D) (a b c : E) : E := fun env A => (a env A).bind fun x A1 => (b env A1).bind fun y A2 => (o x y A2).bind fun z A3 => match z with
  | .bl false => .ok (.bl false) A3
  | .bl true => (c env A3).bind fun w A4 => o' y w A4
  | _ => .stuck
def tOf (a : E) : Tt := fun env A => (a env A).bind fun x A1 => match x with
  | .bl c => .ok c A1
  | _ => .stuck
def tAn (a b : Tt) : Tt := fun env A => (a env A).bind fun c A1 => if c = true then b env A1 else .ok false A1
def tOo (a b : Tt) : Tt := fun env A => (a env A).bind fun c A1 => if c = true then .ok true A1 else b env A1
def tNo (a : Tt) : Tt := fun env A => (a env A).bind fun c A1 => .ok (!c) A1
def tYe : Tt := fun _ A => .ok true A
def eIf (t : Tt) (a b : E) : E := fun env A => (t env A).bind fun c A1 => if c = true then a env A1 else b env A1
def eTup (as : As) : E := fun env A => (as env A).bind fun ds A1 => if ds.length ≤ sizeLine then .ok (.tup ds) A1 else .stuck
def eLst (as : As) : E := fun env A => (as env A).bind fun ds A1 => if ds.length ≤ sizeLine then alloc A1 (.lst ds) else .stuck
def eDNew (t : Bool) : E := fun _ A => alloc A (.dic t false [])
def oNo : Sl → Hs → RE (Option Int) := fun _ A => .ok none A
def oSo (a : E) : Sl → Hs → RE (Option Int) := fun env A => (a env A).bind fun x A1 => match x with
  | .int i => .ok (some i) A1
  | _ => .stuck
def eSl (o : D → Option Int → Option Int → Hs → RE D) (a : E) (l h : Sl → Hs → RE (Option Int)) : E := fun env A => (a env A).bind fun x A1 => (l env A1).bind fun lo A2 => (h env A2).bind fun hi A3 => o x lo hi A3

/-! ### statements -/
def sSeq (a b : S) : S := fun env A => match a env A with
  | .nx env' A' => b env' A'
  | r => r
def sNx : S := fun env A => .nx env A
def sBk : S := fun env A => .bk env A
def sCt : S := fun env A => .ct env A
def ofE (env : Sl) (r : RE D) (k : D → Hs → RS) : RS := match r with
  | .ok d A => k d A
  | .exc C A => .exc C env A
  | .stuck => .stuck
def ofT (env : Sl) (r : RE Bool) (k : Bool → Hs → RS) : RS := match r with
  | .ok d A => k d A
  | .exc C A => .exc C env A
  | .stuck => .stuck
def sDrop (a : E) : S := fun env A => ofE env (a env A) fun _ A1 => .nx env A1
def sRet (a : E) : S := fun env A => ofE env (a env A) fun d A1 => .rt d A1
def sRetN : S := fun _ A => .rt .non A
def sIf (t : Tt) (a b : S) : S := fun env A => ofT env (t env A) fun c A1 => if c = true then a env A1 else b env A1
/-- targets -/
abbrev G := D → Sl → Hs → Option Sl
def gN (i : Nat) : G := fun d env _ => some (env.set i (some d))
def gAll : List G → List D → Sl → Hs → Option Sl
  | [], [], env, _ => some env
  | g :: gs, d :: ds, env, A => match g d env A with
    | some env' => gAll gs ds env' A
    | none => none
  | _, _, _, _ => none
def gT (gs : List G) : G := fun d env A => match d with
  | .tup ds => gAll gs ds env A
  | _ => none
def sAsg (a : E) (g : G) : S := fun env A => ofE env (a env A) fun d A1 => match g d env A1 with
  | some env' => .nx env' A1
  | none => .stuck
def sSet (i : Nat) (a : E) : S := fun env A => ofE env (a env A) fun d A1 => .nx (env.set i (some d)) A1
/-- a, b = x, y -/
def sPar (i j : Nat) (as : As) : S := fun env A => match as env A with
  | .ok [x, y] A1 => .nx ((env.set i (some x)).set j (some y)) A1
  | .exc C A1 => .exc C env A1
  | _ => .stuck
def sAug (i : Nat) (o : D → D → Hs → RE D) (a : E) : S := fun env A => match env[i]? with
  | some (some x) => ofE env (a env A) fun y A1 => ofE env (o x y A1) fun z A2 => .nx (env.set i (some z)) A2
  | _ => .stuck
def putF (f : String) (d : D) : List (String × D) → List (String × D)
  | [] => [(f, d)]
  | (g, e) :: r => if g = f then (g, d) :: r else (g, e) :: putF f d r
def setFld (cs : List String) (A : Hs) (x : D) (f : String) (d : D) : Option Hs := match x with
  | .ref i => match A[i]? with
    | some (.obj C fs) => if C ∈ cs ∧ fs.length < 999 then some (A.set i (.obj C (putF f d fs))) else none
    | _ => none
  | _ => none
/-- o.f = e -/
def sFl (cs : List String) (f : String) (o a : E) : S := fun env A => ofE env (a env A) fun d A1 => ofE env (o env A1) fun x A2 => match setFld cs A2 x f d with
  | some A3 => .nx env A3
  | none => .stuck
/-- o.f op= e -/
def sFlAug (cs : List String) (f : String) (op : D → D → Hs → RE D) (o a : E) : S := fun env A => ofE env (o env A) fun x A1 => match getFld cs f A1 x with
  | some v => ofE env (a env A1) fun y A2 => ofE env (op v y A2) fun z A3 => match setFld cs A3 x f z with
    | some A4 => .nx env A4
    | none => .stuck
  | none => .stuck
/-- what is walked: the items; what must stand for the walk to go on -/
structure Wk where
  ds : List D
  gd : Hs → Prop
open Classical in
noncomputable def forL (g : G) (b : S) (gd : Hs → Prop) : List D → S
  | [], env, A => if gd A then .nx env A else .stuck
  | d :: ds, env, A => if gd A then match g d env A with
    | some env1 => match b env1 A with
      | .nx env2 A2 => forL g b gd ds env2 A2
      | .ct env2 A2 => forL g b gd ds env2 A2
      | .bk env2 A2 => .nx env2 A2
      | r => r
    | none => .stuck
    else .stuck
noncomputable def sFor (w : Sl → Hs → RE Wk) (g : G) (b : S) : S := fun env A => match w env A with
  | .ok k A1 => forL g b k.gd k.ds env A1
  | .exc C A1 => .exc C env A1
  | .stuck => .stuck
/-- some turns of a while -/
def whN (t : Tt) (b : S) : Nat → S
  | 0, _, _ => .stuck
  | n + 1, env, A => ofT env (t env A) fun c A1 => if c = true then match b env A1 with
      | .nx env2 A2 => whN t b n env2 A2
      | .ct env2 A2 => whN t b n env2 A2
      | .bk env2 A2 => .nx env2 A2
      | r => r
    else .nx env A1
open Classical in
noncomputable def sWh (t : Tt) (b : S) : S := fun env A => if h : ∃ n, whN t b n env A ≠ .stuck then whN t b h.choose env A else .stuck
/-- the slots of a block's own names, not known -/
def wipeS (env : Sl) : List Nat → Sl
  | [] => env
  | v :: vs => (wipeS env vs).set v none
open Classical in
noncomputable def lcL (g : G) (t : Tt) (a : E) (gd : Hs → Prop) (env : Sl) : List D → List D → Hs → RE (List D)
  | [], acc, A => if gd A then .ok acc A else .stuck
  | d :: ds, acc, A => if gd A then match g d env A with
    | some env1 => match t env1 A with
      | .ok true A1 => match a env1 A1 with
        | .ok x A2 => if acc.length < sizeLine then lcL g t a gd env ds (acc ++ [x]) A2 else .stuck
        | _ => .stuck
      | .ok false A1 => lcL g t a gd env ds acc A1
      | _ => .stuck
    | none => .stuck
    else .stuck
/-- a list comprehension; vs: the block's own slots -/
noncomputable def eLc (w : Sl → Hs → RE Wk) (g : G) (t : Tt) (a : E) (vs : List Nat) : E := fun env A => (w env A).bind fun k A1 => match lcL g t a k.gd (wipeS env vs) k.ds [] A1 with
  | .ok l A2 => alloc A2 (.lst l)
  | _ => .stuck
/-- a def by its body: n parameters, m names -/
def mkFn (n m : Nat) (b : S) : Fn := fun ds A => if ds.length = n then match b (ds.map some ++ List.replicate (m - n) none) A with
    | .nx _ A' => .ok .non A'
    | .rt d A' => .ok d A'
    | .exc C _ A' => .exc C A'
    | _ => .stuck
  else .stuck
/-- raise C('..') -/
def sRaise (C : String) : S := fun env A => .exc C env A
/-- try: b / except (catches) as i: slot j = it -/
def sTryK (catches : List String) (i j : Nat) (b : S) : S := fun env A => match b env A with
  | .exc C env1 A1 => if C ∈ catches then .nx (((env1.set i (some (.exc C))).set j (some (.exc C))).set i none) A1 else .stuck
  | r => r
/-- try: b / except (catches): s -/
def sTryO (catches : List String) (b s : S) : S := fun env A => match b env A with
  | .exc C env1 A1 => if C ∈ catches then s env1 A1 else .stuck
  | r => r

theorem whN_mono {t : Tt} {b : S} : ∀ {n : Nat} {env : Sl} {A : Hs}, whN t b n env A ≠ .stuck → whN t b (n + 1) env A = whN t b n env A := by
  intro n
  induction n with
  | zero => intro env A h; exact absurd rfl h
  | succ n ih =>
    intro env A h
    unfold whN at h ⊢
    cases ht : t env A with
    | stuck => rw [ht] at h; rfl
    | exc C A1 => rfl
    | ok c A1 =>
      rw [ht] at h
      cases c with
      | false => rfl
      | true =>
        simp only [ofT, if_true] at h ⊢
        cases hb : b env A1 with
        | nx e2 A2 => rw [hb] at h; exact ih h
        | ct e2 A2 => rw [hb] at h; exact ih h
        | bk _ _ => rfl
        | rt _ _ => rfl
        | exc _ _ _ => rfl
        | stuck => rfl
theorem whN_le {t : Tt} {b : S} {env : Sl} {A : Hs} {n k : Nat} (h : whN t b n env A ≠ .stuck) : whN t b (n + k) env A = whN t b n env A := by
  induction k with
  | zero => rfl
  | succ k ih => rw [← ih, ← Nat.add_assoc]; exact whN_mono (by rw [ih]; exact h)
theorem sWh_eq {t : Tt} {b : S} {env : Sl} {A : Hs} {n : Nat} (h : whN t b n env A ≠ .stuck) : sWh t b env A = whN t b n env A := by
  have hx : ∃ n, whN t b n env A ≠ .stuck := ⟨n, h⟩
  unfold sWh
  rw [dif_pos hx]
  have h2 := hx.choose_spec
  rcases Nat.le_total hx.choose n with q | q
  · have := whN_le (k := n - hx.choose) h2
    rw [show hx.choose + (n - hx.choose) = n by omega] at this
    exact this.symm
  · have := whN_le (k := hx.choose - n) h
    rw [show n + (hx.choose - n) = hx.choose by omega] at this
    exact this
/-- one turn -/
theorem sWh_turn {t : Tt} {b : S} {env : Sl} {A : Hs} : sWh t b env A = ofT env (t env A) fun c A1 => if c = true then match b env A1 with
      | .nx env2 A2 => sWh t b env2 A2
      | .ct env2 A2 => sWh t b env2 A2
      | .bk env2 A2 => .nx env2 A2
      | r => r
    else .nx env A1 := by
  have back : ∀ {env : Sl} {A : Hs}, sWh t b env A ≠ .stuck → ∃ n, whN t b n env A ≠ .stuck := fun {env A} h => by
    unfold sWh at h
    split at h
    · assumption
    · exact absurd rfl h
  have stk : ∀ {env : Sl} {A : Hs}, (∀ n, whN t b n env A = .stuck) → sWh t b env A = .stuck := fun {env A} h => by
    unfold sWh
    rw [dif_neg]
    rintro ⟨n, hn⟩
    exact hn (h n)
  cases ht : t env A with
  | stuck =>
    rw [stk fun n => by cases n with
      | zero => rfl
      | succ n => unfold whN; rw [ht]; rfl]
    rfl
  | exc C A1 =>
    have e : whN t b 1 env A = .exc C env A1 := by unfold whN; rw [ht]; rfl
    rw [sWh_eq (n := 1) (by rw [e]; simp), e]
    rfl
  | ok c A1 =>
    cases c with
    | false =>
      have e : whN t b 1 env A = .nx env A1 := by unfold whN; rw [ht]; rfl
      rw [sWh_eq (n := 1) (by rw [e]; simp), e]
      rfl
    | true =>
      simp only [ofT, if_true]
      have e : ∀ n, whN t b (n + 1) env A = match b env A1 with
        | .nx env2 A2 => whN t b n env2 A2
        | .ct env2 A2 => whN t b n env2 A2
        | .bk env2 A2 => .nx env2 A2
        | r => r := fun n => by
        conv => lhs; unfold whN
        rw [ht]; rfl
      have fin : ∀ r, r ≠ .stuck → (∀ n, whN t b (n + 1) env A = r) → sWh t b env A = r := fun r hr h => by rw [sWh_eq (n := 1) (by rw [h 0]; exact hr), h 0]
      have again : ∀ e2 A2, (∀ n, whN t b (n + 1) env A = whN t b n e2 A2) → sWh t b env A = sWh t b e2 A2 := fun e2 A2 h => by
        by_cases q : ∃ n, whN t b n e2 A2 ≠ .stuck
        · obtain ⟨n, hn⟩ := q
          rw [sWh_eq hn, sWh_eq (n := n + 1) (by rw [h n]; exact hn), h n]
        · have q' : ∀ n, whN t b n e2 A2 = .stuck := fun n => Classical.byContradiction fun z => q ⟨n, z⟩
          rw [stk q', stk fun n => by cases n with
            | zero => rfl
            | succ n => rw [h n, q' n]]
      cases hb : b env A1 with
      | nx e2 A2 => exact again e2 A2 fun n => by rw [e, hb]
      | ct e2 A2 => exact again e2 A2 fun n => by rw [e, hb]
      | bk e2 A2 => exact fin _ (by simp) fun n => by rw [e, hb]
      | rt d A2 => exact fin _ (by simp) fun n => by rw [e, hb]
      | exc C e2 A2 => exact fin _ (by simp) fun n => by rw [e, hb]
      | stuck => exact stk fun n => by cases n with
          | zero => rfl
          | succ n => rw [e, hb]
end SM

/-! ## how the plain functions stand to the program: the relation of the heaps -/
namespace SM
open PySem L2
open DL (Ex ExK)

/-- m begins m' -/
abbrev Pre (m m' : List Addr) : Prop := ∃ r, m' = m ++ r
theorem Pre.refl (m : List Addr) : Pre m m := ⟨[], by simp⟩
theorem Pre.trans {a b c : List Addr} (x : Pre a b) (y : Pre b c) : Pre a c := by
  obtain ⟨r, rfl⟩ := x; obtain ⟨s, rfl⟩ := y; exact ⟨r ++ s, by simp⟩
theorem Pre.get {m m' : List Addr} {i : Nat} {a : Addr} (x : Pre m m') (h : m[i]? = some a) : m'[i]? = some a := by
  obtain ⟨r, rfl⟩ := x
  rw [List.getElem?_append_left (List.getElem?_eq_some_iff.mp h).1]; exact h
theorem Pre.mem {m m' : List Addr} {a : Addr} (x : Pre m m') (h : a ∈ m) : a ∈ m' := by
  obtain ⟨r, rfl⟩ := x; exact List.mem_append_left _ h

mutual
inductive Rep (K : PySem.W.Frag) (ca : String → Addr) (F : Hp) (m : List Addr) : V → D → Prop
  | non : Rep K ca F m .non .non
  | bl (b : Bool) : Rep K ca F m (.bl b) (.bl b)
  | int (i : Int) : Rep K ca F m (.int i) (.int i)
  | str (x : Str) : Rep K ca F m (.str x) (.str x)
  | ty (n : String) : Rep K ca F m (.ty n) (.ty n)
  | tup {a : Addr} {vs : List V} {l : List D} : F a = some (.tup vs) → RepL K ca F m vs l → Rep K ca F m (.ref a) (.tup l)
  | wt {a : Addr} {vs : List V} {l : List D} : SqT K F a vs → RepL K ca F m vs l → Rep K ca F m (.ref a) (.wt l)
  | scr {a : Addr} {vs : List V} {l : List D} : SqL K F a vs → RepL K ca F m vs l → Rep K ca F m (.ref a) (.scr l)
  | ref {a : Addr} {i : Nat} : m[i]? = some a → Rep K ca F m (.ref a) (.ref i)
  | nm (x : String) : Rep K ca F m (.ref (ca x)) (.nm x)
  | exc {a : Addr} {C : String} : F a = some (ExK (ca C) a) → Rep K ca F m (.ref a) (.exc C)
inductive RepL (K : PySem.W.Frag) (ca : String → Addr) (F : Hp) (m : List Addr) : List V → List D → Prop
  | nil : RepL K ca F m [] []
  | cons {v : V} {vs : List V} {d : D} {ds : List D} : Rep K ca F m v d → RepL K ca F m vs ds → RepL K ca F m (v :: vs) (d :: ds)
end
section
variable {K : PySem.W.Frag} {ca : String → Addr} {F F' : Hp} {m m' : List Addr}
mutual
theorem Rep.mono (e : Ex F F') (p : Pre m m') : ∀ {v : V} {d : D}, Rep K ca F m v d → Rep K ca F' m' v d
  | _, _, .non => .non
  | _, _, .bl b => .bl b
  | _, _, .int i => .int i
  | _, _, .str x => .str x
  | _, _, .ty n => .ty n
  | _, _, .tup h r => .tup (e _ _ h) (RepL.mono e p r)
  | _, _, .wt h r => .wt (e.t h) (RepL.mono e p r)
  | _, _, .scr h r => .scr (e.l h) (RepL.mono e p r)
  | _, _, .ref h => .ref (p.get h)
  | _, _, .nm x => .nm x
  | _, _, .exc h => .exc (e _ _ h)
theorem RepL.mono (e : Ex F F') (p : Pre m m') : ∀ {vs : List V} {ds : List D}, RepL K ca F m vs ds → RepL K ca F' m' vs ds
  | _, _, .nil => .nil
  | _, _, .cons h r => .cons (Rep.mono e p h) (RepL.mono e p r)
end
theorem RepL.length : ∀ {vs : List V} {ds : List D}, RepL K ca F m vs ds → vs.length = ds.length
  | _, _, .nil => rfl
  | _, _, .cons _ r => by rw [List.length_cons, List.length_cons, r.length]
theorem RepL.get : ∀ {vs : List V} {ds : List D} {i : Nat} {d : D}, RepL K ca F m vs ds → ds[i]? = some d → ∃ v, vs[i]? = some v ∧ Rep K ca F m v d
  | _, _, _, _, .nil, h => by simp at h
  | _, _, 0, _, .cons h _, e => by simp at e; subst e; exact ⟨_, rfl, h⟩
  | _, _, i + 1, _, .cons _ r, e => by
    obtain ⟨v, h1, h2⟩ := RepL.get (i := i) r (by simpa using e)
    exact ⟨v, by simpa using h1, h2⟩
theorem RepL.append : ∀ {vs ws : List V} {ds es : List D}, RepL K ca F m vs ds → RepL K ca F m ws es → RepL K ca F m (vs ++ ws) (ds ++ es)
  | _, _, _, _, .nil, s => s
  | _, _, _, _, .cons h r, s => .cons h (RepL.append r s)
theorem RepL.take : ∀ {vs : List V} {ds : List D} (n : Nat), RepL K ca F m vs ds → RepL K ca F m (vs.take n) (ds.take n)
  | _, _, 0, _ => .nil
  | _, _, _ + 1, .nil => .nil
  | _, _, n + 1, .cons h r => .cons h (RepL.take n r)
theorem RepL.drop : ∀ {vs : List V} {ds : List D} (n : Nat), RepL K ca F m vs ds → RepL K ca F m (vs.drop n) (ds.drop n)
  | _, _, 0, r => r
  | _, _, _ + 1, .nil => .nil
  | _, _, n + 1, .cons _ r => RepL.drop n r
theorem RepL.set {v : V} {d : D} (h : Rep K ca F m v d) : ∀ {vs : List V} {ds : List D} (n : Nat), RepL K ca F m vs ds → RepL K ca F m (vs.set n v) (ds.set n d)
  | _, _, _, .nil => .nil
  | _, _, 0, .cons _ r => .cons h r
  | _, _, n + 1, .cons q r => .cons q (RepL.set h n r)
theorem RepL.reverse : ∀ {vs : List V} {ds : List D}, RepL K ca F m vs ds → RepL K ca F m vs.reverse ds.reverse
  | _, _, .nil => .nil
  | _, _, .cons h r => by
    rw [List.reverse_cons, List.reverse_cons]
    exact (RepL.reverse r).append (.cons h .nil)
theorem RepL.eraseIdx : ∀ {vs : List V} {ds : List D} (n : Nat), RepL K ca F m vs ds → RepL K ca F m (vs.eraseIdx n) (ds.eraseIdx n)
  | _, _, _, .nil => .nil
  | _, _, 0, .cons _ r => r
  | _, _, n + 1, .cons q r => .cons q (RepL.eraseIdx n r)
theorem RepL.flatRep {vs : List V} {ds : List D} (h : RepL K ca F m vs ds) : ∀ n : Nat, RepL K ca F m (List.replicate n vs).flatten (List.replicate n ds).flatten
  | 0 => .nil
  | n + 1 => by
    rw [List.replicate_succ, List.replicate_succ, List.flatten_cons, List.flatten_cons]
    exact h.append (RepL.flatRep h n)
/-- ints, truths, texts: the values are those of the data -/
theorem RepL.ints : ∀ {vs : List V} {ns : List Int}, RepL K ca F m vs (ns.map D.int) → vs = ns.map V.int
  | _, [], h => by cases h; rfl
  | _, n :: r, h => by
    cases h with
    | cons q t => cases q; rw [RepL.ints t]; rfl
theorem RepL.bools : ∀ {vs : List V} {ns : List Bool}, RepL K ca F m vs (ns.map D.bl) → vs = ns.map V.bl
  | _, [], h => by cases h; rfl
  | _, n :: r, h => by
    cases h with
    | cons q t => cases q; rw [RepL.bools t]; rfl
theorem RepL.of_ints : ∀ {ns : List Int}, RepL K ca F m (ns.map V.int) (ns.map D.int)
  | [] => .nil
  | n :: _ => .cons (.int n) RepL.of_ints
end
/-- keys -/
def kD : Key → D
  | .inl i => .int i
  | .inr x => .str x
def kT (l : List Key) : D := .tup (l.map kD)
inductive KvR (K : PySem.W.Frag) (ca : String → Addr) (F : Hp) (m : List Addr) {κ δ : Type} (kd : κ → δ) : List (κ × V) → List (δ × D) → Prop
  | nil : KvR K ca F m kd [] []
  | cons {k : κ} {v : V} {d : D} {r : List (κ × V)} {s : List (δ × D)} : Rep K ca F m v d → KvR K ca F m kd r s → KvR K ca F m kd ((k, v) :: r) ((kd k, d) :: s)
theorem KvR.mono {K : PySem.W.Frag} {ca : String → Addr} {F F' : Hp} {m m' : List Addr} {κ δ : Type} {kd : κ → δ} (e : Ex F F') (p : Pre m m') : ∀ {l : List (κ × V)} {s : List (δ × D)}, KvR K ca F m kd l s → KvR K ca F' m' kd l s
  | _, _, .nil => .nil
  | _, _, .cons h r => .cons (h.mono e p) (KvR.mono e p r)
theorem KvR.length {K : PySem.W.Frag} {ca : String → Addr} {F : Hp} {m : List Addr} {κ δ : Type} {kd : κ → δ} : ∀ {l : List (κ × V)} {s : List (δ × D)}, KvR K ca F m kd l s → l.length = s.length
  | _, _, .nil => rfl
  | _, _, .cons _ r => by rw [List.length_cons, List.length_cons, KvR.length r]
/-- the object u stands at a, locked or not -/
def At (H : Hp) (a : Addr) : Bool → HO → Prop
  | false, u => H a = some u
  | true, u => ∃ od, H a = some (.frz od u)
def fS (f : String) : Str := ⟨(f.toList.map Char.toNat).toArray⟩
theorem fS_inj {f g : String} : fS f = fS g ↔ f = g := by
  refine ⟨fun h => ?_, fun h => by rw [h]⟩
  unfold fS at h
  injection h with h
  have h2 : f.toList.map Char.toNat = g.toList.map Char.toNat := by
    have := congrArg Array.toList h
    simpa using this
  have inj : ∀ a b : Char, a.toNat = b.toNat → a = b := fun a b e => Char.ext (UInt32.toNat_inj.mp e)
  have h3 : ∀ (l m : List Char), l.map Char.toNat = m.map Char.toNat → l = m := by
    intro l
    induction l with
    | nil => intro m h; cases m with
      | nil => rfl
      | cons _ _ => simp at h
    | cons a l ih =>
      intro m h
      cases m with
      | nil => simp at h
      | cons b m =>
        rw [List.map_cons, List.map_cons] at h
        injection h with h1 h2
        rw [inj a b h1, ih m h2]
  exact String.toList_inj.mp (h3 _ _ h2)
/-- fields by their names -/
inductive FdR (K : PySem.W.Frag) (ca : String → Addr) (F : Hp) (m : List Addr) : List (Str × V) → List (String × D) → Prop
  | nil : FdR K ca F m [] []
  | cons {f : String} {v : V} {d : D} {r : List (Str × V)} {s : List (String × D)} : Rep K ca F m v d → FdR K ca F m r s → FdR K ca F m ((fS f, v) :: r) ((f, d) :: s)
theorem FdR.mono {K : PySem.W.Frag} {ca : String → Addr} {F F' : Hp} {m m' : List Addr} (e : Ex F F') (p : Pre m m') : ∀ {l : List (Str × V)} {s : List (String × D)}, FdR K ca F m l s → FdR K ca F' m' l s
  | _, _, .nil => .nil
  | _, _, .cons h r => .cons (h.mono e p) (FdR.mono e p r)
theorem FdR.length {K : PySem.W.Frag} {ca : String → Addr} {F : Hp} {m : List Addr} : ∀ {l : List (Str × V)} {s : List (String × D)}, FdR K ca F m l s → l.length = s.length
  | _, _, .nil => rfl
  | _, _, .cons _ r => by rw [List.length_cons, List.length_cons, FdR.length r]
def ORep (K : PySem.W.Frag) (ca : String → Addr) (F : Hp) (m : List Addr) (H : Hp) (a : Addr) : O → Prop
  | .lst l => ∃ vs, H a = some (.lst vs) ∧ RepL K ca F m vs l
  | .dic false lk l => ∃ kvs, At H a lk (.dK kvs) ∧ KvR K ca F m kD kvs l
  | .dic true lk l => ∃ kvs, At H a lk (.dT kvs) ∧ KvR K ca F m kT kvs l
  | .obj C fs => ∃ dx kvs, H a = some (.ins (ca C) dx kvs) ∧ FdR K ca F m kvs fs
theorem At.mono {H H' : Hp} {a : Addr} {lk : Bool} {u : HO} (h : At H a lk u) (k : ∀ w, H a = some w → H' a = some w) : At H' a lk u := by
  cases lk with
  | false => exact k _ h
  | true => obtain ⟨od, h⟩ := h; exact ⟨od, k _ h⟩
section
variable {K : PySem.W.Frag} {ca : String → Addr} {F F' H H' : Hp} {m m' : List Addr} {a : Addr} {o : O}
theorem ORep.mono (h : ORep K ca F m H a o) (e : Ex F F') (p : Pre m m') (k : ∀ u, H a = some u → H' a = some u) : ORep K ca F' m' H' a o := by
  cases o with
  | lst l => obtain ⟨vs, x, r⟩ := h; exact ⟨vs, k _ x, r.mono e p⟩
  | dic t lk l =>
    cases t with
    | false => obtain ⟨kvs, x, r⟩ := h; exact ⟨kvs, x.mono k, r.mono e p⟩
    | true => obtain ⟨kvs, x, r⟩ := h; exact ⟨kvs, x.mono k, r.mono e p⟩
  | obj C fs => obtain ⟨dx, kvs, x, r⟩ := h; exact ⟨dx, kvs, k _ x, r.mono e p⟩
theorem ORep.ho (h : ORep K ca F m H a o) : ∃ u, H a = some u := by
  cases o with
  | lst l => obtain ⟨vs, x, r⟩ := h; exact ⟨_, x⟩
  | dic t lk l =>
    cases t with
    | false =>
      obtain ⟨kvs, x, r⟩ := h
      cases lk with
      | false => exact ⟨_, x⟩
      | true => obtain ⟨od, x⟩ := x; exact ⟨_, x⟩
    | true =>
      obtain ⟨kvs, x, r⟩ := h
      cases lk with
      | false => exact ⟨_, x⟩
      | true => obtain ⟨od, x⟩ := x; exact ⟨_, x⟩
  | obj C fs => obtain ⟨dx, kvs, x, _⟩ := h; exact ⟨_, x⟩
end
/-- the plain heap A is the heap H: m tells where its objects stand, F what never changes -/
structure Rl (K : PySem.W.Frag) (ca : String → Addr) (F : Hp) (m : List Addr) (A : Hs) (H : Hp) : Prop where
  fh : Ex F H
  len : m.length = A.length
  nd : m.Nodup
  fr : ∀ a ∈ m, F a = none
  ob : ∀ (i : Nat) (o : O) (a : Addr), A[i]? = some o → m[i]? = some a → ORep K ca F m H a o
/-- what a step leaves -/
structure Stp (F : Hp) (m : List Addr) (H F' : Hp) (m' : List Addr) (H' : Hp) : Prop where
  ff : Ex F F'
  mm : Pre m m'
  kp : ∀ a u, H a = some u → a ∉ m → H' a = some u
  gn : ∀ a, F' a ≠ none → F a ≠ none ∨ H a = none
  gm : ∀ a, a ∈ m' → a ∈ m ∨ H a = none
  th : ∀ a, H a ≠ none → H' a ≠ none
  fz : ∀ a o u, H a = some (.frz o u) → H' a = some (.frz o u)
structure Slt (K : PySem.W.Frag) (ca : String → Addr) (F : Hp) (m : List Addr) (σ : L2.St) (env : Sl) : Prop where
  len : σ.length = env.length
  val : ∀ (i : Nat) (d : D), env[i]? = some (some d) → ∃ v : V, σ[i]? = some (some v) ∧ Rep K ca F m v d
section
variable {K : PySem.W.Frag} {ca : String → Addr} {F F1 F2 H H1 H2 : Hp} {m m1 m2 : List Addr} {A : Hs} {σ : L2.St} {env : Sl} {p : Addr} {u : HO} {o : O} {d : D} {v : V} {i : Nat}
theorem Stp.refl : Stp F m H F m H := ⟨Ex.refl _, Pre.refl _, fun _ _ h _ => h, fun a h => .inl h, fun a h => .inl h, fun _ h => h, fun _ _ _ h => h⟩
theorem Stp.none (x : Stp F m H F1 m1 H1) (n : H1 p = none) : H p = none := by
  cases w : H p with
  | none => rfl
  | some v => exact absurd n (x.th p (by rw [w]; simp))
theorem Stp.trans (x : Stp F m H F1 m1 H1) (y : Stp F1 m1 H1 F2 m2 H2) : Stp F m H F2 m2 H2 := by
  refine ⟨x.ff.trans y.ff, x.mm.trans y.mm, fun a u h n => ?_, fun a h => ?_, fun a h => ?_, fun a h => y.th a (x.th a h), fun a o u h => y.fz a o u (x.fz a o u h)⟩
  · refine y.kp a u (x.kp a u h n) fun hm => ?_
    rcases x.gm a hm with q | q
    · exact n q
    · rw [h] at q; cases q
  · rcases y.gn a h with q | q
    · exact x.gn a q
    · exact .inr (x.none q)
  · rcases y.gm a h with q | q
    · exact x.gm a q
    · exact .inr (x.none q)
theorem Slt.mono (S : Slt K ca F m σ env) (e : Ex F F1) (p : Pre m m1) : Slt K ca F1 m1 σ env := ⟨S.len, fun i d h => by
  obtain ⟨v, h1, h2⟩ := S.val i d h
  exact ⟨v, h1, h2.mono e p⟩⟩
theorem Slt.stp (S : Slt K ca F m σ env) (x : Stp F m H F1 m1 H1) : Slt K ca F1 m1 σ env := S.mono x.ff x.mm
theorem Slt.set (S : Slt K ca F m σ env) (r : Rep K ca F m v d) : Slt K ca F m (σ.set i (some v)) (env.set i (some d)) := ⟨by simp [S.len], fun j e h => by
  by_cases q : i = j
  · subst q
    rw [List.getElem?_set] at h ⊢
    have l := S.len
    split at h
    · split at h
      · cases h
        refine ⟨v, ?_, r⟩
        simp_all
      · cases h
    · rename_i z; exact absurd rfl z
  · rw [List.getElem?_set_ne q] at h ⊢
    exact S.val j e h⟩
theorem Slt.unset (S : Slt K ca F m σ env) : Slt K ca F m (σ.set i none) (env.set i none) := ⟨by simp [S.len], fun j e h => by
  by_cases q : i = j
  · subst q
    rw [List.getElem?_set] at h
    split at h
    · split at h <;> cases h
    · rename_i z; exact absurd rfl z
  · rw [List.getElem?_set_ne q] at h ⊢
    exact S.val j e h⟩
theorem Rl.ne (R : Rl K ca F m A H) {a : Addr} (h : a ∈ m) : H a ≠ none := by
  obtain ⟨i, hi⟩ := List.getElem?_of_mem h
  have l : i < A.length := by rw [← R.len]; exact (List.getElem?_eq_some_iff.mp hi).1
  obtain ⟨u, hu⟩ := (R.ob i A[i] a (by simp [l]) hi).ho
  rw [hu]; simp
theorem Rl.out (R : Rl K ca F m A H) {a : Addr} (h : H a = none) : a ∉ m := fun q => R.ne q h
/-- a new thing that stands -/
theorem Rl.new (R : Rl K ca F m A H) (n : H p = none) : Rl K ca (upd F p u) m A (upd H p u) ∧ Stp F m H (upd F p u) m (upd H p u) := by
  have nf := R.fh.back n
  refine ⟨⟨R.fh.both, R.len, R.nd, fun a h => ?_, fun i o a h1 h2 => (R.ob i o a h1 h2).mono (Ex.new nf) (Pre.refl _) fun w hw => Ex.new n a w hw⟩, Ex.new nf, Pre.refl _, fun a w h _ => Ex.new n a w h, fun a h => ?_, fun a h => .inl h, fun a h z => h ((Ex.new n).back z), fun a o w h => Ex.new n a _ h⟩
  · rw [upd_ne (fun z => R.out n (by rw [← z]; exact h))]; exact R.fr a h
  · by_cases q : a = p
    · subst q; exact .inr n
    · rw [upd_ne q] at h; exact .inl h
/-- a new thing that nobody tracks -/
theorem Rl.newH (R : Rl K ca F m A H) (n : H p = none) : Rl K ca F m A (upd H p u) ∧ Stp F m H F m (upd H p u) := by
  refine ⟨⟨R.fh.trans (Ex.new n), R.len, R.nd, R.fr, fun i o a h1 h2 => (R.ob i o a h1 h2).mono (Ex.refl _) (Pre.refl _) fun w hw => Ex.new n a w hw⟩, Ex.refl _, Pre.refl _, fun a w h _ => Ex.new n a w h, fun a h => .inl h, fun a h => .inl h, fun a h z => h ((Ex.new n).back z), fun a o w h => Ex.new n a _ h⟩
/-- what is there is taken into the plain heap -/
theorem Rl.take (R : Rl K ca F m A H) (n : p ∉ m) (nf : F p = none) (r : ORep K ca F (m ++ [p]) H p o) : Rl K ca F (m ++ [p]) (A ++ [o]) H := by
  refine ⟨R.fh, by simp [R.len], ?_, fun a h => ?_, fun i o' a h1 h2 => ?_⟩
  · rw [List.nodup_append]
    refine ⟨R.nd, by simp, fun a h b hb e => ?_⟩
    rw [List.mem_singleton] at hb
    exact n (by rw [← hb, ← e]; exact h)
  · rcases List.mem_append.mp h with q | q
    · exact R.fr a q
    · rw [List.mem_singleton] at q; rw [q]; exact nf
  · by_cases q : i < A.length
    · rw [List.getElem?_append_left q] at h1
      rw [List.getElem?_append_left (by rw [R.len]; exact q)] at h2
      exact (R.ob i o' a h1 h2).mono (Ex.refl _) ⟨[p], rfl⟩ fun _ h => h
    · rw [List.getElem?_append_right (Nat.le_of_not_lt q)] at h1
      rw [List.getElem?_append_right (by rw [R.len]; exact Nat.le_of_not_lt q)] at h2
      rw [R.len] at h2
      have e : i - A.length = 0 := by
        have := (List.getElem?_eq_some_iff.mp h1).1
        simp at this; omega
      rw [e] at h1 h2
      cases h1; cases h2; exact r
/-- a new object of the plain heap -/
theorem Rl.alloc (R : Rl K ca F m A H) (n : H p = none) (r : ORep K ca F (m ++ [p]) (upd H p u) p o) : Rl K ca F (m ++ [p]) (A ++ [o]) (upd H p u) ∧ Stp F m H F (m ++ [p]) (upd H p u) ∧ Rep K ca F (m ++ [p]) (.ref p) (.ref A.length) := by
  obtain ⟨R1, g1⟩ := R.newH (u := u) n
  refine ⟨R1.take (R.out n) (R.fh.back n) r, ⟨Ex.refl _, ⟨[p], rfl⟩, g1.kp, g1.gn, fun a h => ?_, g1.th, g1.fz⟩, .ref (by rw [List.getElem?_append_right (by rw [R.len]; exact Nat.le_refl _), R.len]; simp)⟩
  rcases List.mem_append.mp h with q | q
  · exact .inl q
  · rw [List.mem_singleton] at q; exact .inr (by rw [q]; exact n)
/-- an object of the plain heap is another one now -/
theorem Rl.put {a : Addr} {o' : O} (R : Rl K ca F m A H) (ha : m[i]? = some a) (nz : ∀ od w, H a ≠ some (.frz od w)) (r : ORep K ca F m (upd H a u) a o') : Rl K ca F m (A.set i o') (upd H a u) ∧ Stp F m H F m (upd H a u) := by
  have hm : a ∈ m := List.mem_of_getElem? ha
  have fa := R.fr a hm
  refine ⟨⟨R.fh.right fa, by simp [R.len], R.nd, R.fr, fun j o b h1 h2 => ?_⟩, Ex.refl _, Pre.refl _, fun b w h n => ?_, fun a h => .inl h, fun a h => .inl h, fun b h z => ?_, fun b od w h => ?_⟩
  · by_cases q : i = j
    · subst q
      rw [ha] at h2; cases h2
      rw [List.getElem?_set] at h1
      split at h1
      · split at h1
        · cases h1; exact r
        · cases h1
      · rename_i z; exact absurd rfl z
    · rw [List.getElem?_set_ne q] at h1
      have nb : b ≠ a := fun z => q (by
        subst z
        exact (List.getElem?_inj (List.getElem?_eq_some_iff.mp ha).1 R.nd).mp (ha.trans h2.symm))
      exact (R.ob j o b h1 h2).mono (Ex.refl _) (Pre.refl _) fun w hw => by rw [upd_ne nb]; exact hw
  · rw [upd_ne fun z => n (by rw [z]; exact hm)]; exact h
  · by_cases q : b = a
    · subst q; rw [upd_same] at z; cases z
    · rw [upd_ne q] at z; exact h z
  · rw [upd_ne fun z => nz od w (by rw [← z]; exact h)]; exact h
theorem Rl.at (R : Rl K ca F m A H) (hA : A[i]? = some o) (r : Rep K ca F m v (.ref i)) : ∃ a, v = .ref a ∧ m[i]? = some a ∧ ORep K ca F m H a o := by
  cases r with
  | ref h => exact ⟨_, rfl, h, R.ob i o _ hA h⟩

/-! ### simulations -/
/-- what is wanted behind it, told of the plain end -/
def Po {α β : Type} (K : PySem.W.Frag) (ca : String → Addr) (Rr : Hp → List Addr → β → α → Prop) (F : Hp) (m : List Addr) (H : Hp) (W : WX) (σ : L2.St) (Q : β → Hp → Prop) : RE α → Prop
  | .ok a A' => ∀ v F' m' H', Rl K ca F' m' A' H' → Stp F m H F' m' H' → Rr F' m' v a → Q v H'
  | .exc C A' => ∀ F' m' H', Rl K ca F' m' A' H' → Stp F m H F' m' H' → W (.ref (ca C)) none σ H'
  | .stuck => False
def Sim {α β : Type} (K : PySem.W.Frag) (ca : String → Addr) (Rr : Hp → List Addr → β → α → Prop) (W : WX) (te : L2.St → Hp → (β → Hp → Prop) → Prop) (f : Sl → Hs → RE α) : Prop :=
  ∀ F m A σ H env Q, Rl K ca F m A H → Slt K ca F m σ env → Po K ca Rr F m H W σ Q (f env A) → te σ H Q
def ReqI {α : Type} : Hp → List Addr → α → α → Prop := fun _ _ b c => b = c
abbrev SimE (K : PySem.W.Frag) (ca : String → Addr) (W : WX) (te : TE) (f : E) : Prop := Sim K ca (Rep K ca) W te f
abbrev SimT (K : PySem.W.Frag) (ca : String → Addr) (W : WX) (te : TT) (f : Tt) : Prop := Sim K ca ReqI W te f
abbrev SimA (K : PySem.W.Frag) (ca : String → Addr) (W : WX) (te : TA) (f : As) : Prop := Sim K ca (RepL K ca) W te f
abbrev SimO (K : PySem.W.Frag) (ca : String → Addr) (W : WX) (te : TO) (f : Sl → Hs → RE (Option Int)) : Prop := Sim K ca ReqI W te f
end
section
variable {K : PySem.W.Frag} {ca : String → Addr} {F F1 F2 H H1 H2 : Hp} {m m1 m2 : List Addr} {A : Hs} {σ : L2.St} {env : Sl} {W : WX}
theorem Po.stp {α β : Type} {Rr : Hp → List Addr → β → α → Prop} {Q : β → Hp → Prop} {r : RE α} (h : Po K ca Rr F m H W σ Q r) (g : Stp F m H F1 m1 H1) : Po K ca Rr F1 m1 H1 W σ Q r := by
  cases r with
  | ok a A' => exact fun v F' m' H' R g' q => h v F' m' H' R (g.trans g') q
  | exc C A' => exact fun F' m' H' R g' => h F' m' H' R (g.trans g')
  | stuck => exact h
theorem Po.imp {α β : Type} {Rr : Hp → List Addr → β → α → Prop} {Q Q' : β → Hp → Prop} {r : RE α} (h : Po K ca Rr F m H W σ Q r) (k : ∀ v H, Q v H → Q' v H) : Po K ca Rr F m H W σ Q' r := by
  cases r with
  | ok a A' => exact fun v F' m' H' R g' q => k _ _ (h v F' m' H' R g' q)
  | exc C A' => exact h
  | stuck => exact h
/-- first f, then g -/
theorem Sim.bind {α β γ δ : Type} {Rr : Hp → List Addr → β → α → Prop} {Rs : Hp → List Addr → δ → γ → Prop} {te : L2.St → Hp → (β → Hp → Prop) → Prop} {f : Sl → Hs → RE α} (h : Sim K ca Rr W te f) (R : Rl K ca F m A H) (S : Slt K ca F m σ env) {g : α → Hs → RE γ}
    {Q : δ → Hp → Prop} {T : β → Hp → Prop} (p : Po K ca Rs F m H W σ Q ((f env A).bind g))
    (k : ∀ F1 m1 A1 H1 x a, Rl K ca F1 m1 A1 H1 → Stp F m H F1 m1 H1 → Slt K ca F1 m1 σ env → Rr F1 m1 x a → Po K ca Rs F1 m1 H1 W σ Q (g a A1) → T x H1) : te σ H T := by
  refine h F m A σ H env T R S ?_
  cases q : f env A with
  | ok a A1 =>
    rw [q] at p
    exact fun v F1 m1 H1 R1 g1 r => k F1 m1 A1 H1 v a R1 g1 (S.stp g1) r (Po.stp p g1)
  | exc C A1 => rw [q] at p; exact p
  | stuck => rw [q] at p; exact p
/-! ### expressions -/
variable {ta tb tc te : TE} {a b c : E} {i : Nat} {d : D} {t u : TT} {ft fu : Tt} {ts : TA} {as : As}
theorem se_var : SimE K ca W (tVar i) (eVar i) := fun F m A σ H env Q R S p => by
  unfold eVar at p
  cases q : env[i]? with
  | none => rw [q] at p; exact p.elim
  | some z =>
    cases z with
    | none => rw [q] at p; exact p.elim
    | some d =>
      rw [q] at p
      obtain ⟨v, h1, h2⟩ := S.val i d q
      exact ⟨v, h1, p v F m H R Stp.refl h2⟩
theorem se_c {v : V} (h : ∀ F m, Rep K ca F m v d) : SimE K ca W (tC v) (eC d) := fun F m A σ H env Q R S p => p v F m H R Stp.refl (h F m)
theorem se_int {n : Int} : SimE K ca W (tC (.int n)) (eC (.int n)) := se_c fun _ _ => .int n
theorem se_bl {c : Bool} : SimE K ca W (tC (.bl c)) (eC (.bl c)) := se_c fun _ _ => .bl c
theorem se_non : SimE K ca W (tC .non) (eC .non) := se_c fun _ _ => .non
theorem se_ty {x : String} : SimE K ca W (tC (.ty x)) (eC (.ty x)) := se_c fun _ _ => .ty x
/-- an operator: two operands' values, their data -/
def OpS (K : PySem.W.Frag) (ca : String → Addr) (r : R2) (o : D → D → Hs → RE D) : Prop := ∀ F m A H x y dx dy W σ Q, Rl K ca F m A H → Rep K ca F m x dx → Rep K ca F m y dy → Po K ca (Rep K ca) F m H W σ Q (o dx dy A) → r x y H Q
theorem se_op {r : R2} {o : D → D → Hs → RE D} (h : OpS K ca r o) (ha : SimE K ca W ta a) (hb : SimE K ca W tb b) : SimE K ca W (tOp r ta tb) (eOp o a b) := fun F m A σ H env Q R S p =>
  ha.bind R S p fun F1 m1 A1 H1 x dx R1 g1 S1 rx p1 => hb.bind R1 S1 p1 fun F2 m2 A2 H2 y dy R2 g2 S2 ry p2 => h F2 m2 A2 H2 x y dx dy W σ Q R2 (rx.mono g2.ff g2.mm) ry p2
def UnS (K : PySem.W.Frag) (ca : String → Addr) (r : V → Hp → VK → Prop) (o : D → Hs → RE D) : Prop := ∀ F m A H x dx W σ Q, Rl K ca F m A H → Rep K ca F m x dx → Po K ca (Rep K ca) F m H W σ Q (o dx A) → r x H Q
theorem se_un {r : V → Hp → VK → Prop} {o : D → Hs → RE D} (h : UnS K ca r o) (ha : SimE K ca W ta a) : SimE K ca W (tUn r ta) (eUn o a) := fun F m A σ H env Q R S p =>
  ha.bind R S p fun F1 m1 A1 H1 x dx R1 g1 S1 rx p1 => h F1 m1 A1 H1 x dx W σ Q R1 rx p1
theorem sa_nil : SimA K ca W tNil aNil := fun F m A σ H env Q R S p => p [] F m H R Stp.refl .nil
theorem sa_cons (ha : SimE K ca W ta a) (hs : SimA K ca W ts as) : SimA K ca W (tCons ta ts) (aCons a as) := fun F m A σ H env Q R S p =>
  ha.bind R S p fun F1 m1 A1 H1 x dx R1 g1 S1 rx p1 => hs.bind R1 S1 p1 fun F2 m2 A2 H2 xs ds R2 g2 S2 rs p2 => p2 (x :: xs) F2 m2 H2 R2 Stp.refl (.cons (rx.mono g2.ff g2.mm) rs)
def CbS (K : PySem.W.Frag) (ca : String → Addr) (r : List V → Hp → VK → Prop) (o : List D → Hs → RE D) : Prop := ∀ F m A H xs ds W σ Q, Rl K ca F m A H → RepL K ca F m xs ds → Po K ca (Rep K ca) F m H W σ Q (o ds A) → r xs H Q
theorem se_cb {r : List V → Hp → VK → Prop} {o : List D → Hs → RE D} (h : CbS K ca r o) (hs : SimA K ca W ts as) : SimE K ca W (tCB r ts) (eCB o as) := fun F m A σ H env Q R S p =>
  hs.bind R S p fun F1 m1 A1 H1 xs ds R1 g1 S1 rx p1 => h F1 m1 A1 H1 xs ds W σ Q R1 rx p1
theorem se_and (ha : SimE K ca W ta a) (hb : SimE K ca W tb b) : SimE K ca W (tAndV ta tb) (eAnd a b) := fun F m A σ H env Q R S p =>
  ha.bind R S p fun F1 m1 A1 H1 x dx R1 g1 S1 rx p1 => by
    cases rx with
    | bl c =>
      refine ⟨c, rfl, ?_⟩
      cases c with
      | true => exact hb F1 m1 A1 σ H1 env Q R1 S1 p1
      | false => exact p1 _ F1 m1 H1 R1 Stp.refl (.bl false)
    | _ => exact p1.elim
theorem se_or (ha : SimE K ca W ta a) (hb : SimE K ca W tb b) : SimE K ca W (tOrV ta tb) (eOr a b) := fun F m A σ H env Q R S p =>
  ha.bind R S p fun F1 m1 A1 H1 x dx R1 g1 S1 rx p1 => by
    cases rx with
    | bl c =>
      refine ⟨c, rfl, ?_⟩
      cases c with
      | false => exact hb F1 m1 A1 σ H1 env Q R1 S1 p1
      | true => exact p1 _ F1 m1 H1 R1 Stp.refl (.bl true)
    | _ => exact p1.elim
theorem se_not (ha : SimE K ca W ta a) : SimE K ca W (tNotV ta) (eNot a) := fun F m A σ H env Q R S p =>
  ha.bind R S p fun F1 m1 A1 H1 x dx R1 g1 S1 rx p1 => by
    cases rx with
    | bl c => exact ⟨c, rfl, p1 _ F1 m1 H1 R1 Stp.refl (.bl _)⟩
    | _ => exact p1.elim
theorem se_ch {q q' : R2} {o o' : D → D → Hs → RE D} (h : OpS K ca q o) (h' : OpS K ca q' o') (ha : SimE K ca W ta a) (hb : SimE K ca W tb b) (hc : SimE K ca W tc c) : SimE K ca W (tChain q q' ta tb tc) (eCh o o' a b c) := fun F m A σ H env Q R S p =>
  ha.bind R S p fun F1 m1 A1 H1 x dx R1 g1 S1 rx p1 => hb.bind R1 S1 p1 fun F2 m2 A2 H2 y dy R2 g2 S2 ry p2 => by
    refine h F2 m2 A2 H2 x y dx dy W σ _ R2 (rx.mono g2.ff g2.mm) ry ?_
    cases w : o dx dy A2 with
    | stuck => rw [w] at p2; exact p2
    | exc C A3 => rw [w] at p2; exact p2
    | ok z A3 =>
      rw [w] at p2
      intro v F3 m3 H3 R3 g3 rz
      have p3 := Po.stp p2 g3
      cases rz with
      | bl k =>
        refine ⟨k, rfl, ?_⟩
        cases k with
        | false => exact p3 _ F3 m3 H3 R3 Stp.refl (.bl false)
        | true => exact hc.bind R3 (S2.stp g3) p3 fun F4 m4 A4 H4 w dw R4 g4 S4 rw' p4 => h' F4 m4 A4 H4 y w dy dw W σ Q R4 (ry.mono (g3.ff.trans g4.ff) (g3.mm.trans g4.mm)) rw' p4
      | _ => exact p3.elim
theorem st_test (ha : SimE K ca W ta a) : SimT K ca W (tTest ta) (tOf a) := fun F m A σ H env Q R S p =>
  ha.bind R S p fun F1 m1 A1 H1 x dx R1 g1 S1 rx p1 => by
    cases rx with
    | bl c => exact ⟨c, rfl, p1 _ F1 m1 H1 R1 Stp.refl rfl⟩
    | _ => exact p1.elim
theorem st_b (ha : SimE K ca W ta a) : SimT K ca W (tB ta) (tOf a) := fun F m A σ H env Q R S p =>
  ha.bind R S p fun F1 m1 A1 H1 x dx R1 g1 S1 rx p1 => by
    cases rx with
    | bl c => exact ⟨c, rfl, p1 _ F1 m1 H1 R1 Stp.refl rfl⟩
    | _ => exact p1.elim
theorem st_not (ht : SimT K ca W t ft) : SimT K ca W (tNot t) (tNo ft) := fun F m A σ H env Q R S p =>
  ht.bind R S p fun F1 m1 A1 H1 x dx R1 g1 S1 rx p1 => by
    cases (show x = dx from rx)
    exact p1 _ F1 m1 H1 R1 Stp.refl rfl
theorem st_and (ht : SimT K ca W t ft) (hu : SimT K ca W u fu) : SimT K ca W (tAnd t u) (tAn ft fu) := fun F m A σ H env Q R S p =>
  ht.bind R S p fun F1 m1 A1 H1 x dx R1 g1 S1 rx p1 => by
    cases (show x = dx from rx)
    cases x with
    | true => exact hu F1 m1 A1 σ H1 env Q R1 S1 p1
    | false => exact p1 _ F1 m1 H1 R1 Stp.refl rfl
theorem st_or (ht : SimT K ca W t ft) (hu : SimT K ca W u fu) : SimT K ca W (tOr t u) (tOo ft fu) := fun F m A σ H env Q R S p =>
  ht.bind R S p fun F1 m1 A1 H1 x dx R1 g1 S1 rx p1 => by
    cases (show x = dx from rx)
    cases x with
    | false => exact hu F1 m1 A1 σ H1 env Q R1 S1 p1
    | true => exact p1 _ F1 m1 H1 R1 Stp.refl rfl
theorem st_yes : SimT K ca W tYes tYe := fun F m A σ H env Q R S p => p _ F m H R Stp.refl rfl
theorem se_tup (hs : SimA K ca W ts as) : SimE K ca W (tTup ts) (eTup as) := fun F m A σ H env Q R S p =>
  hs.bind R S p fun F1 m1 A1 H1 xs ds R1 g1 S1 rs p1 => by
    split at p1
    · rename_i hl
      refine ⟨by rw [rs.length]; exact hl, fun q hq => ?_⟩
      obtain ⟨R2, g2⟩ := R1.new (u := .tup xs) hq
      exact p1 _ _ _ _ R2 g2 (.tup upd_same (rs.mono g2.ff g2.mm))
    · exact p1.elim
theorem po_alloc {Q : VK} {p : Addr} {u : HO} {o : O} (R : Rl K ca F m A H) (n : H p = none) (r : ORep K ca F (m ++ [p]) (upd H p u) p o) (h : Po K ca (Rep K ca) F m H W σ Q (alloc A o)) : Q (.ref p) (upd H p u) := by
  obtain ⟨R2, g2, q⟩ := R.alloc n r
  exact h _ _ _ _ R2 g2 q
theorem se_lst (hs : SimA K ca W ts as) : SimE K ca W (tLst ts) (eLst as) := fun F m A σ H env Q R S p =>
  hs.bind R S p fun F1 m1 A1 H1 xs ds R1 g1 S1 rs p1 => by
    split at p1
    · rename_i hl
      exact ⟨by rw [rs.length]; exact hl, fun q hq => po_alloc (o := .lst ds) R1 hq ⟨xs, upd_same, rs.mono (Ex.refl _) ⟨_, rfl⟩⟩ p1⟩
    · exact p1.elim
theorem se_dnewK : SimE K ca W tDNewK (eDNew false) := fun F m A σ H env Q R S p q hq => po_alloc (o := .dic false false []) R hq ⟨[], upd_same, .nil⟩ p
theorem so_none : SimO K ca W tNoPart oNo := fun F m A σ H env Q R S p => p _ F m H R Stp.refl rfl
theorem so_some (ha : SimE K ca W ta a) : SimO K ca W (tPart ta) (oSo a) := fun F m A σ H env Q R S p =>
  ha.bind R S p fun F1 m1 A1 H1 x dx R1 g1 S1 rx p1 => by
    cases rx with
    | int i => exact ⟨i, rfl, p1 _ F1 m1 H1 R1 Stp.refl rfl⟩
    | _ => exact p1.elim
def SlS (K : PySem.W.Frag) (ca : String → Addr) (r : V → Option Int → Option Int → Hp → VK → Prop) (o : D → Option Int → Option Int → Hs → RE D) : Prop := ∀ F m A H x dx lo hi W σ Q, Rl K ca F m A H → Rep K ca F m x dx → Po K ca (Rep K ca) F m H W σ Q (o dx lo hi A) → r x lo hi H Q
theorem se_sl {r : V → Option Int → Option Int → Hp → VK → Prop} {o : D → Option Int → Option Int → Hs → RE D} {tl th : TO} {fl fh : Sl → Hs → RE (Option Int)} (h : SlS K ca r o) (ha : SimE K ca W ta a) (hl : SimO K ca W tl fl) (hh : SimO K ca W th fh) : SimE K ca W (tSl r ta tl th) (eSl o a fl fh) := fun F m A σ H env Q R S p =>
  ha.bind R S p fun F1 m1 A1 H1 x dx R1 g1 S1 rx p1 => hl.bind R1 S1 p1 fun F2 m2 A2 H2 lo lo' R2 g2 S2 rl p2 => hh.bind R2 S2 p2 fun F3 m3 A3 H3 hi hi' R3 g3 S3 rh p3 => by
    cases (show lo = lo' from rl)
    cases (show hi = hi' from rh)
    exact h F3 m3 A3 H3 x dx lo hi W σ Q R3 (rx.mono (g2.ff.trans g3.ff) (g2.mm.trans g3.mm)) p3

/-! ### promises -/
def PoF (K : PySem.W.Frag) (ca : String → Addr) (F : Hp) (m : List Addr) (H : Hp) (Q : VK) (E : XK) : RE D → Prop
  | .ok a A' => ∀ v F' m' H', Rl K ca F' m' A' H' → Stp F m H F' m' H' → Rep K ca F' m' v a → Q v H'
  | .exc C A' => ∀ F' m' H', Rl K ca F' m' A' H' → Stp F m H F' m' H' → E (.ref (ca C)) none H'
  | .stuck => False
/-- THE PROMISE: it does what the plain function does -/
def SpF (K : PySem.W.Frag) (ca : String → Addr) (f : Fn) : Sp := fun vs H Q E => ∃ F m A ds, Rl K ca F m A H ∧ RepL K ca F m vs ds ∧ PoF K ca F m H Q E (f ds A)
theorem pof_po {Q : VK} {r : RE D} (h : Po K ca (Rep K ca) F m H W σ Q r) : PoF K ca F m H Q (WE W σ) r := by
  cases r <;> exact h
theorem pof_noX {Q : VK} {X : XK} {r : RE D} (h : Po K ca (Rep K ca) F m H W σ Q r.noX) : PoF K ca F m H Q X r := by
  cases r with
  | ok a A => exact h
  | exc C A => exact h.elim
  | stuck => exact h.elim
theorem se_call {f : Fn} (hs : SimA K ca W ts as) : SimE K ca W (tCallS (SpF K ca f) (WE W) ts) (eCall f as) := fun F m A σ H env Q R S p =>
  hs.bind R S p fun F1 m1 A1 H1 xs ds R1 g1 S1 rs p1 => ⟨F1, m1, A1, ds, R1, rs, pof_po p1⟩
theorem se_call0 {f : Fn} {X : XK} (hs : SimA K ca W ts as) : SimE K ca W (tCall (SpF K ca f) [] X ts) (eCall0 f as) := fun F m A σ H env Q R S p =>
  hs.bind R S p fun F1 m1 A1 H1 xs ds R1 g1 S1 rs p1 => ⟨F1, m1, A1, ds, R1, by rw [List.append_nil]; exact rs, pof_noX p1⟩

/-! ### fields -/
theorem fS_look {f : String} : ∀ {l : List (Str × V)} {s : List (String × D)}, FdR K ca F m l s → (∀ d, s.lookup f = some d → ∃ v, l.lookup (fS f) = some v ∧ Rep K ca F m v d) ∧ (s.lookup f = none → l.lookup (fS f) = none)
  | _, _, .nil => ⟨fun d h => by simp at h, fun _ => rfl⟩
  | _, _, .cons (f := g) (v := v) (d := e) h r => by
    have ih := fS_look (f := f) r
    by_cases q : f = g
    · subst q
      refine ⟨fun d z => ?_, fun z => ?_⟩
      · rw [List.lookup_cons_self] at z; cases z
        exact ⟨v, by rw [List.lookup_cons_self], h⟩
      · rw [List.lookup_cons_self] at z; cases z
    · have q1 : (f == g) = false := by simpa using q
      have q2 : (fS f == fS g) = false := by
        rw [beq_eq_false_iff_ne]
        exact fun z => q (fS_inj.mp z)
      refine ⟨fun d z => ?_, fun z => ?_⟩
      · rw [List.lookup_cons, q1] at z
        obtain ⟨w, h1, h2⟩ := ih.1 d z
        exact ⟨w, by rw [List.lookup_cons, q2]; exact h1, h2⟩
      · rw [List.lookup_cons, q1] at z
        rw [List.lookup_cons, q2]; exact ih.2 z
end
end SM

/-! ## methods that may raise -/
namespace L2
open PySem PySem.Spec PyProof.Rows
def tMethX (C : Addr) (m : Str) (sp : Sp) (E : St → XK) (ta : TE) (t : TA) : TE := fun σ H Q => ta σ H fun x H1 => ∃ a dx fs, x = .ref a ∧ H1 a = some (.ins C dx fs) ∧ fs.lookup m = none ∧
  t σ H1 fun vs H2 => sp (x :: vs) H2 Q (E σ)
section
variable {X : Cx} {CX : CXT} {k : Nat} {f C : Addr} {fd : FuncData} {ps : List Str} {sp : Sp} {E : St → XK} {x m : Str} {p pos apos : Pos} {e o : Expr} {es : List Expr} {ta : TE} {t : TA}
theorem pe_methX {pl : Sem Bool} (he : PE X o ta) (c : Cls X.K C) (hm : Meth X.K C m f) (F : FnOk X.prog X.w X.K X.mg X.base CX k f fd ps sp) (hr : Room k X.A) (hb : Binds X.K fd ps []) (hx : ∀ σ, PassesAt CX X σ (E σ)) (ha : PA X (e :: es) t)
    (hst : starEach (e :: es) X.env = (false, eval e X.env) :: starEach es X.env := by rfl) (hpl : (backTo pos (starEach es X.env)).any (·.1) = false := by rfl)
    (ht : eval (.Call (.Attribute o m apos) (e :: es) [] pos) X.env = (do
      let ov ← eval o X.env
      standAt apos.atName
      let (f, first) ← holding [ov] (getMethod ov m pl)
      callWith pos f first (backTo pos (starEach (e :: es) X.env)) (backToKw pos (keywordEach [] X.env))) := by rfl) :
    PE X (.Call (.Attribute o m apos) (e :: es) [] pos) (tMethX C m sp E ta t) := by
  refine ⟨fun pins s σ H Q I h => ?_⟩
  refine PySem.W.methodCall_KW (pl := pl) (thn (he.run pins s σ H _ I h) fun u s1 ⟨x, H1, I1, rx, a, dx, fs, ex, ea, l, q⟩ => ?_) ht
  subst ex
  obtain rfl : u = Value.ref a := rx
  refine getmeth_ok I1 ea c hm l ?_
  refine PySem.W.callWith_K (first := [.ref a]) (h₀ := X.base) I.ok.mod.kin hm.kp (thn (ha.run pos pins s1 σ H1 _ I1 q) fun us s2 ⟨vs, H2, I2, r, q2⟩ => ⟨I2.kIn, ?_⟩) hst hpl
  exact run_fnS (us := .ref a :: us) (vs := .ref a :: vs) F hr hb (hx σ) I2 (.cons rfl r) q2
/-- o.m() -/
theorem pe_methX0 {pl : Sem Bool} (he : PE X o ta) (c : Cls X.K C) (hm : Meth X.K C m f) (F : FnOk X.prog X.w X.K X.mg X.base CX k f fd ps sp) (hr : Room k X.A) (hb : Binds X.K fd ps []) (hx : ∀ σ, PassesAt CX X σ (E σ))
    (ht : eval (.Call (.Attribute o m apos) [] [] pos) X.env = (do
      let ov ← eval o X.env
      standAt apos.atName
      let (f, first) ← holding [ov] (getMethod ov m pl)
      callWith pos f first (backTo pos (starEach [] X.env)) (backToKw pos (keywordEach [] X.env))) := by rfl) :
    PE X (.Call (.Attribute o m apos) [] [] pos) (tMethX C m sp E ta tNil) := by
  refine ⟨fun pins s σ H Q I h => ?_⟩
  refine PySem.W.methodCall_KW (pl := pl) (thn (he.run pins s σ H _ I h) fun u s1 ⟨x, H1, I1, rx, a, dx, fs, ex, ea, l, q⟩ => ?_) ht
  subst ex
  obtain rfl : u = Value.ref a := rx
  refine getmeth_ok I1 ea c hm l ?_
  exact PySem.W.callWith_K0 (first := [.ref a]) I1.kIn hm.kp (run_fnS (us := [.ref a]) (vs := [.ref a]) F hr hb (hx σ) I1 (.cons rfl .nil) q)
theorem PE.or {X : Cx} {e : Expr} {t u : TE} (h1 : PE X e t) (h2 : PE X e u) : PE X e (fun σ H Q => t σ H Q ∨ u σ H Q) := ⟨fun pins s σ H Q I h => by
  rcases h with h | h
  · exact h1.run pins s σ H Q I h
  · exact h2.run pins s σ H Q I h⟩
theorem PS.or {X : Cx} {st : Stmt} {t u : TS} (h1 : PS X st t) (h2 : PS X st u) : PS X st (fun D σ H => t D σ H ∨ u D σ H) := ⟨fun pins s σ H D I h => by
  rcases h with h | h
  · exact h1.run pins s σ H D I h
  · exact h2.run pins s σ H D I h⟩
end
end L2
/-! ## fields, calls, statements -/
namespace SM
open PySem L2
open DL (Ex ExK tRaise tTry tTryO)
section
variable {K : PySem.W.Frag} {ca : String → Addr} {F F1 F2 H H1 H2 : Hp} {m m1 m2 : List Addr} {A A1 A2 : Hs} {σ : L2.St} {env : Sl} {W : WX}
variable {ta tb tc te : TE} {a b c : E} {i : Nat} {d : D} {t u : TT} {ft fu : Tt} {ts : TA} {as : As} {x : V} {dx : D} {C : String} {fs : List (String × D)} {cs : List String}
theorem obj_at (R : Rl K ca F m A H) (r : Rep K ca F m x dx) (h : objAt A dx = some (C, fs)) : ∃ i a dxx kvs, dx = .ref i ∧ x = .ref a ∧ m[i]? = some a ∧ A[i]? = some (.obj C fs) ∧ H a = some (.ins (ca C) dxx kvs) ∧ FdR K ca F m kvs fs := by
  cases dx with
  | ref i =>
    unfold objAt at h
    cases q : A[i]? with
    | none => simp [q] at h
    | some o =>
      cases o with
      | obj C' fs' =>
        simp [q] at h
        obtain ⟨rfl, rfl⟩ := h
        obtain ⟨a, e, ha, dxx, kvs, h1, h2⟩ := R.at q r
        exact ⟨i, a, dxx, kvs, rfl, e, ha, q, h1, h2⟩
      | lst _ => simp [q] at h
      | dic _ _ _ => simp [q] at h
  | _ => simp [objAt] at h
/-- the classes cs, that know no name f -/
def NoF (K : PySem.W.Frag) (ca : String → Addr) (cs : List String) (f : Str) : Prop := AllC (fun C => Cls K (ca C) ∧ NoAttr K (ca C) f) cs
theorem getFld_at {f : String} {f' : Str} (hf : f' = fS f) (R : Rl K ca F m A H) (r : Rep K ca F m x dx) (kc : NoF K ca cs f') (h : getFld cs f A dx = some d) : ∃ a C dxx kvs v, C ∈ cs ∧ x = .ref a ∧ H a = some (.ins (ca C) dxx kvs) ∧ Cls K (ca C) ∧ NoAttr K (ca C) f' ∧ kvs.lookup f' = some v ∧ Rep K ca F m v d := by
  unfold getFld at h
  cases q : objAt A dx with
  | none => rw [q] at h; cases h
  | some z =>
    obtain ⟨C, fs⟩ := z
    rw [q] at h
    simp only at h
    split at h
    · rename_i hc
      obtain ⟨i, a, dxx, kvs, e1, e2, h1, h2, h3, h4⟩ := obj_at R r q
      obtain ⟨v, h5, h6⟩ := (fS_look (f := f) h4).1 d h
      have kk := AllC.of kc hc
      exact ⟨a, C, dxx, kvs, v, hc, e2, h3, kk.1, kk.2, by rw [hf]; exact h5, h6⟩
    · cases h
theorem se_fld {f : String} {f' : Str} (hf : f' = fS f) (kc : NoF K ca cs f') (ha : SimE K ca W ta a) : SimE K ca W (tFld K ta f') (eFld cs f a) := fun F m A σ H env Q R S p =>
  ha.bind R S p fun F1 m1 A1 H1 x dx R1 g1 S1 rx p1 => by
    cases q : getFld cs f A1 dx with
    | none => simp only [q] at p1; exact p1.elim
    | some d =>
      simp only [q] at p1
      obtain ⟨a, C, dxx, kvs, v, _, e, h1, h2, h3, h4, h5⟩ := getFld_at hf R1 rx kc q
      exact ⟨a, ca C, dxx, kvs, v, e, h1, h2, h3, h4, p1 v F1 m1 H1 R1 Stp.refl h5⟩
theorem putF_rep {f : String} {v : V} (hv : Rep K ca F m v d) : ∀ {kvs : List (Str × V)} {fs : List (String × D)}, FdR K ca F m kvs fs → FdR K ca F m (L2.putF (fS f) v kvs) (putF f d fs)
  | _, _, .nil => .cons hv .nil
  | _, _, .cons (f := g) h r => by
    unfold L2.putF SM.putF
    by_cases q : g = f
    · subst q; rw [if_pos rfl, if_pos rfl]; exact .cons hv r
    · rw [if_neg q, if_neg (fun z => q (fS_inj.mp z))]; exact .cons h (putF_rep hv r)
theorem setFld_at {f : String} {f' : Str} {v : V} (hf : f' = fS f) (R : Rl K ca F m A H) (r : Rep K ca F m x dx) (rv : Rep K ca F m v d) (kc : NoF K ca cs f') (h : setFld cs A dx f d = some A2) :
    ∃ a C dxx kvs, C ∈ cs ∧ x = .ref a ∧ H a = some (.ins (ca C) dxx kvs) ∧ Cls K (ca C) ∧ NoAttr K (ca C) f' ∧ kvs.length < 999 ∧ Rl K ca F m A2 (upd H a (.ins (ca C) dxx (L2.putF f' v kvs))) ∧ Stp F m H F m (upd H a (.ins (ca C) dxx (L2.putF f' v kvs))) := by
  unfold setFld at h
  cases dx with
  | ref i =>
    simp only at h
    cases q : A[i]? with
    | none => simp [q] at h
    | some o =>
      cases o with
      | obj C fs =>
        simp only [q] at h
        split at h
        · rename_i hc
          cases h
          obtain ⟨a, e, ha, dxx, kvs, h1, h2⟩ := R.at q r
          have kk := AllC.of kc hc.1
          obtain ⟨R2, g2⟩ := R.put (u := .ins (ca C) dxx (L2.putF f' v kvs)) (o' := .obj C (putF f d fs)) ha (fun od w z => by rw [h1] at z; cases z) ⟨dxx, _, upd_same, by rw [hf]; exact putF_rep rv h2⟩
          exact ⟨a, C, dxx, kvs, hc.1, e, h1, kk.1, kk.2, by rw [h2.length]; exact hc.2, R2, g2⟩
        · cases h
      | lst _ => simp [q] at h
      | dic _ _ _ => simp [q] at h
  | _ => simp at h

/-! ### statements -/
def PoS (K : PySem.W.Frag) (ca : String → Addr) (F : Hp) (m : List Addr) (H : Hp) (W : WX) (Dn : Ends) : RS → Prop
  | .nx e A' => ∀ F' m' σ' H', Rl K ca F' m' A' H' → Stp F m H F' m' H' → Slt K ca F' m' σ' e → Dn.nx σ' H'
  | .bk e A' => ∀ F' m' σ' H', Rl K ca F' m' A' H' → Stp F m H F' m' H' → Slt K ca F' m' σ' e → Dn.bk σ' H'
  | .ct e A' => ∀ F' m' σ' H', Rl K ca F' m' A' H' → Stp F m H F' m' H' → Slt K ca F' m' σ' e → Dn.ct σ' H'
  | .rt d A' => ∀ v F' m' H', Rl K ca F' m' A' H' → Stp F m H F' m' H' → Rep K ca F' m' v d → Dn.rt v H'
  | .exc C e A' => ∀ F' m' σ' H', Rl K ca F' m' A' H' → Stp F m H F' m' H' → Slt K ca F' m' σ' e → W (.ref (ca C)) none σ' H'
  | .stuck => False
def SimS (K : PySem.W.Frag) (ca : String → Addr) (W : WX) (t : TS) (f : S) : Prop := ∀ F m A σ H env Dn, Rl K ca F m A H → Slt K ca F m σ env → PoS K ca F m H W Dn (f env A) → t Dn σ H
variable {s1 s2 s : TS} {f1 f2 f : S} {Dn : Ends}
theorem PoS.stp {r : RS} (h : PoS K ca F m H W Dn r) (g : Stp F m H F1 m1 H1) : PoS K ca F1 m1 H1 W Dn r := by
  cases r with
  | nx e A' => exact fun F' m' σ' H' R g' q => h F' m' σ' H' R (g.trans g') q
  | bk e A' => exact fun F' m' σ' H' R g' q => h F' m' σ' H' R (g.trans g') q
  | ct e A' => exact fun F' m' σ' H' R g' q => h F' m' σ' H' R (g.trans g') q
  | rt d A' => exact fun v F' m' H' R g' q => h v F' m' H' R (g.trans g') q
  | exc C e A' => exact fun F' m' σ' H' R g' q => h F' m' σ' H' R (g.trans g') q
  | stuck => exact h
/-- the value of an expression, then a statement's rest -/
theorem ofE_bind {k : D → Hs → RS} {T : VK} (h : SimE K ca W te a) (R : Rl K ca F m A H) (S : Slt K ca F m σ env) (p : PoS K ca F m H W Dn (ofE env (a env A) k))
    (kk : ∀ F1 m1 A1 H1 x d, Rl K ca F1 m1 A1 H1 → Stp F m H F1 m1 H1 → Slt K ca F1 m1 σ env → Rep K ca F1 m1 x d → PoS K ca F1 m1 H1 W Dn (k d A1) → T x H1) : te σ H T := by
  refine h F m A σ H env T R S ?_
  cases q : a env A with
  | ok d A1 =>
    rw [q] at p
    exact fun v F1 m1 H1 R1 g1 r => kk F1 m1 A1 H1 v d R1 g1 (S.stp g1) r (PoS.stp p g1)
  | exc C A1 => rw [q] at p; exact fun F1 m1 H1 R1 g1 => p F1 m1 σ H1 R1 g1 (S.stp g1)
  | stuck => rw [q] at p; exact p
theorem ofT_bind {k : Bool → Hs → RS} {T : Bool → Hp → Prop} (h : SimT K ca W t ft) (R : Rl K ca F m A H) (S : Slt K ca F m σ env) (p : PoS K ca F m H W Dn (ofT env (ft env A) k))
    (kk : ∀ F1 m1 A1 H1 c, Rl K ca F1 m1 A1 H1 → Stp F m H F1 m1 H1 → Slt K ca F1 m1 σ env → PoS K ca F1 m1 H1 W Dn (k c A1) → T c H1) : t σ H T := by
  refine h F m A σ H env T R S ?_
  cases q : ft env A with
  | ok d A1 =>
    rw [q] at p
    intro v F1 m1 H1 R1 g1 r
    cases (show v = d from r)
    exact kk F1 m1 A1 H1 d R1 g1 (S.stp g1) (PoS.stp p g1)
  | exc C A1 => rw [q] at p; exact fun F1 m1 H1 R1 g1 => p F1 m1 σ H1 R1 g1 (S.stp g1)
  | stuck => rw [q] at p; exact p
theorem ss_seq (h1 : SimS K ca W s1 f1) (h2 : SimS K ca W s2 f2) : SimS K ca W (tSeq s1 s2) (sSeq f1 f2) := fun F m A σ H env Dn R S p => by
  refine h1 F m A σ H env { Dn with nx := s2 Dn } R S ?_
  unfold sSeq at p
  cases q : f1 env A with
  | nx e A1 =>
    rw [q] at p
    exact fun F' m' σ' H' R' g' S' => h2 F' m' A1 σ' H' e Dn R' S' (PoS.stp p g')
  | bk e A1 => rw [q] at p; exact p
  | ct e A1 => rw [q] at p; exact p
  | rt d A1 => rw [q] at p; exact p
  | exc C e A1 => rw [q] at p; exact p
  | stuck => rw [q] at p; exact p
theorem ss_next : SimS K ca W tNext sNx := fun F m A σ H env Dn R S p => p F m σ H R Stp.refl S
theorem ss_drop (h : SimE K ca W te a) : SimS K ca W (tDrop te) (sDrop a) := fun F m A σ H env Dn R S p => ofE_bind h R S p fun F1 m1 A1 H1 x d R1 g1 S1 rx p1 => p1 F1 m1 σ H1 R1 Stp.refl S1
theorem ss_ret (h : SimE K ca W te a) : SimS K ca W (tRet te) (sRet a) := fun F m A σ H env Dn R S p => ofE_bind h R S p fun F1 m1 A1 H1 x d R1 g1 S1 rx p1 => p1 x F1 m1 H1 R1 Stp.refl rx
theorem ss_retn : SimS K ca W tRetN sRetN := fun F m A σ H env Dn R S p => p .non F m H R Stp.refl .non
theorem ss_if (ht : SimT K ca W t ft) (h1 : SimS K ca W s1 f1) (h2 : SimS K ca W s2 f2) : SimS K ca W (tIfS t s1 s2) (sIf ft f1 f2) := fun F m A σ H env Dn R S p => ofT_bind ht R S p fun F1 m1 A1 H1 c R1 g1 S1 p1 => by
  cases c with
  | true => exact h1 F1 m1 A1 σ H1 env Dn R1 S1 p1
  | false => exact h2 F1 m1 A1 σ H1 env Dn R1 S1 p1
theorem ss_set (h : SimE K ca W te a) : SimS K ca W (tAsg te (gName i)) (sSet i a) := fun F m A σ H env Dn R S p => ofE_bind h R S p fun F1 m1 A1 H1 x d R1 g1 S1 rx p1 => p1 F1 m1 _ H1 R1 Stp.refl (S1.set rx)
/-- targets: slots js alone change -/
def SimG (K : PySem.W.Frag) (ca : String → Addr) (g : TG) (f : G) (js : List Nat) : Prop := ∀ F m A σ H env v d env', Rl K ca F m A H → Slt K ca F m σ env → Rep K ca F m v d → f d env A = some env' → ∀ Q : L2.St → Hp → Prop,
  (∀ σ', Slt K ca F m σ' env' → σ'.length = σ.length → (∀ i : Nat, i ∉ js → σ'[i]? = σ[i]?) → Q σ' H) → g v σ H Q
def SimGs (K : PySem.W.Frag) (ca : String → Addr) (g : TGs) (f : List G) (js : List Nat) : Prop := ∀ F m A σ H env vs ds env', Rl K ca F m A H → Slt K ca F m σ env → RepL K ca F m vs ds → gAll f ds env A = some env' → ∀ Q : L2.St → Hp → Prop,
  (∀ σ', Slt K ca F m σ' env' → σ'.length = σ.length → (∀ i : Nat, i ∉ js → σ'[i]? = σ[i]?) → Q σ' H) → g vs σ H Q
theorem sg_name : SimG K ca (gName i) (gN i) [i] := fun F m A σ H env v d env' R S r h Q k => by
  cases h
  exact k _ (S.set r) (by simp) fun j hj => by rw [List.getElem?_set_ne (by intro z; exact hj (by simp [z]))]
theorem sgs_nil : SimGs K ca gNil [] [] := fun F m A σ H env vs ds env' R S r h Q k => by
  cases r with
  | nil => cases h; exact ⟨rfl, k σ S rfl fun _ _ => rfl⟩
  | cons _ _ => cases h
theorem sgs_cons {g : TG} {gs : TGs} {f : G} {fs : List G} {js ks : List Nat} (h : SimG K ca g f js) (hs : SimGs K ca gs fs ks) : SimGs K ca (gCons g gs) (f :: fs) (js ++ ks) := fun F m A σ H env vs ds env' R S r e Q k => by
  cases r with
  | nil => cases e
  | cons r1 r2 =>
    rename_i v vs d ds
    unfold gAll at e
    cases q : f d env A with
    | none => rw [q] at e; cases e
    | some env1 =>
      rw [q] at e
      refine ⟨v, vs, rfl, h F m A σ H env v d env1 R S r1 q _ fun σ1 S1 l1 k1 => hs F m A σ1 H env1 vs ds env' R S1 r2 e Q fun σ2 S2 l2 k2 => k σ2 S2 (l2.trans l1) fun i hi => ?_⟩
      rw [k2 i (fun z => hi (List.mem_append_right _ z)), k1 i (fun z => hi (List.mem_append_left _ z))]
theorem gAll_len : ∀ {fs : List G} {ds : List D} {env env' : Sl} {A : Hs}, gAll fs ds env A = some env' → ds.length = fs.length
  | [], [], _, _, _, _ => rfl
  | g :: gs, d :: ds, env, env', A, h => by
    unfold gAll at h
    cases q : g d env A with
    | none => rw [q] at h; cases h
    | some e => rw [q] at h; rw [List.length_cons, List.length_cons, gAll_len h]
  | [], _ :: _, _, _, _, h => by cases h
  | _ :: _, [], _, _, _, h => by cases h
theorem sg_tup {gs : TGs} {fs : List G} {js : List Nat} {n : Nat} (h : SimGs K ca gs fs js) (hn : fs.length = n) : SimG K ca (gTup K n gs) (gT fs) js := fun F m A σ H env v d env' R S r e Q k => by
  cases r with
  | tup s p =>
    have e' : gAll fs _ env A = some env' := e
    exact ⟨_, _, rfl, .inl (.inl (R.fh _ _ s)), by rw [p.length, gAll_len e', hn], h F m A σ H env _ _ env' R S p e' Q k⟩
  | _ => cases e
theorem ss_asg {g : TG} {gf : G} {js : List Nat} (h : SimE K ca W te a) (hg : SimG K ca g gf js) : SimS K ca W (tAsg te g) (sAsg a gf) := fun F m A σ H env Dn R S p => ofE_bind h R S p fun F1 m1 A1 H1 x d R1 g1 S1 rx p1 => by
  cases q : gf d env A1 with
  | none => simp only [q] at p1; exact p1.elim
  | some env' =>
    simp only [q] at p1
    exact hg F1 m1 A1 σ H1 env x d env' R1 S1 rx q _ fun σ' S' _ _ => p1 F1 m1 σ' H1 R1 Stp.refl S'
theorem ss_par {j : Nat} (h : SimA K ca W ts as) : SimS K ca W (tPar i j ts) (sPar i j as) := fun F m A σ H env Dn R S p => by
  refine h F m A σ H env _ R S ?_
  unfold sPar at p
  cases q : as env A with
  | ok ds A1 =>
    rw [q] at p
    intro vs F1 m1 H1 R1 g1 r
    match ds, r, p with
    | [], _, p => exact p.elim
    | [_], _, p => exact p.elim
    | [d, e], .cons r1 (.cons r2 .nil), p => exact ⟨_, _, rfl, p F1 m1 _ H1 R1 g1 (((S.stp g1).set r1).set r2)⟩
    | _ :: _ :: _ :: _, _, p => exact p.elim
  | exc C A1 => rw [q] at p; exact fun F1 m1 H1 R1 g1 => p F1 m1 σ H1 R1 g1 (S.stp g1)
  | stuck => rw [q] at p; exact p
/-- x op= e -/
def IpS (K : PySem.W.Frag) (ca : String → Addr) (r : TIp) (o : D → D → Hs → RE D) : Prop := ∀ F m A H x y dx dy W σ Q, Rl K ca F m A H → Rep K ca F m x dx → Rep K ca F m y dy → Po K ca (Rep K ca) F m H W σ Q (o dx dy A) → r x y H Q
theorem po_ofE {k : D → Hs → RS} {T : VK} {r : RE D} (S : Slt K ca F m σ env) (p : PoS K ca F m H W Dn (ofE env r k)) (kk : ∀ F1 m1 A1 H1 x d, Rl K ca F1 m1 A1 H1 → Stp F m H F1 m1 H1 → Slt K ca F1 m1 σ env → Rep K ca F1 m1 x d → PoS K ca F1 m1 H1 W Dn (k d A1) → T x H1) : Po K ca (Rep K ca) F m H W σ T r := by
  cases r with
  | ok d A1 => exact fun v F1 m1 H1 R1 g1 r => kk F1 m1 A1 H1 v d R1 g1 (S.stp g1) r (PoS.stp p g1)
  | exc C A1 => exact fun F1 m1 H1 R1 g1 => p F1 m1 σ H1 R1 g1 (S.stp g1)
  | stuck => exact p
theorem ss_fl {f : String} {f' : Str} {tv : TE} (hf : f' = fS f) (kc : NoF K ca cs f') (ho : SimE K ca W ta a) (hv : SimE K ca W tv b) : SimS K ca W (sFld K ta tv f') (sFl cs f a b) := fun F m A σ H env Dn R S p =>
  ofE_bind hv R S p fun F1 m1 A1 H1 y dy R1 g1 S1 ry p1 => ofE_bind ho R1 S1 p1 fun F2 m2 A2 H2 x dx R2 g2 S2 rx p2 => by
    cases q : setFld cs A2 dx f dy with
    | none => simp only [q] at p2; exact p2.elim
    | some A3 =>
      simp only [q] at p2
      obtain ⟨a, C, dxx, kvs, _, e, h1, h2, h3, h4, R3, g3⟩ := setFld_at hf R2 rx (ry.mono g2.ff g2.mm) kc q
      exact ⟨a, ca C, dxx, kvs, e, h1, h2, h3, by omega, p2 F2 m2 σ _ R3 g3 S2⟩
theorem ss_raise {C : String} {Ca : Addr} (h : ca C = Ca) : SimS K ca W (tRaise W Ca) (sRaise C) := fun F m A σ H env Dn R S p => by
  subst h; exact p F m σ H R Stp.refl S
/-! ### loops -/
theorem ss_while (ht : SimT K ca W t ft) (h : SimS K ca W s f) : SimS K ca W (tWhile t s) (sWh ft f) := fun F m A σ H env Dn R S p => by
  have hx : ∃ n, whN ft f n env A ≠ .stuck := by
    by_cases q : ∃ n, whN ft f n env A ≠ .stuck
    · exact q
    · unfold sWh at p; rw [dif_neg q] at p; exact p.elim
  obtain ⟨n, hn⟩ := hx
  rw [sWh_eq hn] at p
  refine ⟨fun n σ' H' => ∃ F' m' A' env', Rl K ca F' m' A' H' ∧ Slt K ca F' m' σ' env' ∧ PoS K ca F' m' H' W Dn (whN ft f n env' A'), ⟨n, F, m, A, env, R, S, p⟩, ?_⟩
  rintro n σ' H' ⟨F', m', A', env', R', S', p'⟩
  cases n with
  | zero => exact p'.elim
  | succ n =>
    unfold whN at p'
    refine ofT_bind ht R' S' p' fun F1 m1 A1 H1 c R1 g1 S1 p1 => ?_
    cases c with
    | false => exact p1 F1 m1 σ' H1 R1 Stp.refl S1
    | true =>
      refine ⟨fun σ2 H2 => ∃ F2 m2 A2 env2, Rl K ca F2 m2 A2 H2 ∧ Slt K ca F2 m2 σ2 env2 ∧ PoS K ca F2 m2 H2 W Dn (whN ft f n env2 A2), fun σ2 H2 z => ⟨n, Nat.lt_succ_self n, z⟩, ?_⟩
      refine h F1 m1 A1 σ' H1 env' _ R1 S1 ?_
      simp only [if_true] at p1
      cases q : f env' A1 with
      | nx e A2 => rw [q] at p1; exact fun F2 m2 σ2 H2 R2 g2 S2 => ⟨F2, m2, A2, e, R2, S2, PoS.stp p1 g2⟩
      | ct e A2 => rw [q] at p1; exact fun F2 m2 σ2 H2 R2 g2 S2 => ⟨F2, m2, A2, e, R2, S2, PoS.stp p1 g2⟩
      | bk e A2 => rw [q] at p1; exact p1
      | rt d A2 => rw [q] at p1; exact p1
      | exc C e A2 => rw [q] at p1; exact p1
      | stuck => rw [q] at p1; exact p1
/-- what is walked -/
def PoW (K : PySem.W.Frag) (ca : String → Addr) (F : Hp) (m : List Addr) (H : Hp) (W : WX) (σ : L2.St) (R : It → Hp → Prop) : RE Wk → Prop
  | .ok k A' => ∀ J F' m' H', Rl K ca F' m' A' H' → Stp F m H F' m' H' → (∃ (G : Hp → Prop) (Y : Nat → Hp → V → Hp → Prop), Walk J k.ds.length G Y ∧
      (∀ F2 m2 A2 H2, k.gd A2 → Rl K ca F2 m2 A2 H2 → Stp F' m' H' F2 m2 H2 → G H2) ∧
      ∀ i d x F2 m2 A2 H2 H3, k.ds[i]? = some d → k.gd A2 → Rl K ca F2 m2 A2 H2 → Stp F' m' H' F2 m2 H2 → Y i H2 x H3 → (H3 = H2 ∧ Rep K ca F2 m2 x d) ∨ (∃ T vs l, d = .tup l ∧ x = .ref T ∧ H2 T = none ∧ H3 = upd H2 T (.tup vs) ∧ RepL K ca F2 m2 vs l)) → R J H'
  | .exc C A' => ∀ F' m' H', Rl K ca F' m' A' H' → Stp F m H F' m' H' → W (.ref (ca C)) none σ H'
  | .stuck => False
def SimI (K : PySem.W.Frag) (ca : String → Addr) (W : WX) (wi : TI) (f : Sl → Hs → RE Wk) : Prop := ∀ F m A σ H env R, Rl K ca F m A H → Slt K ca F m σ env → PoW K ca F m H W σ R (f env A) → wi σ H R
theorem ss_for {wi : TI} {w : Sl → Hs → RE Wk} {g : TG} {gf : G} {js : List Nat} (hi : SimI K ca W wi w) (hg : SimG K ca g gf js) (h : SimS K ca W s f) : SimS K ca W (tFor wi g s) (sFor w gf f) := fun F m A σ H env Dn R S p => by
  refine hi F m A σ H env _ R S ?_
  unfold sFor at p
  cases q : w env A with
  | stuck => rw [q] at p; exact p
  | exc C A1 => rw [q] at p; exact fun F1 m1 H1 R1 g1 => p F1 m1 σ H1 R1 g1 (S.stp g1)
  | ok k A1 =>
    rw [q] at p
    rintro J F1 m1 H1 R1 g1 ⟨G, Y, wk, hG, hY⟩
    refine for_it wk (fun i σ' H' => ∃ F' m' A' env', Rl K ca F' m' A' H' ∧ Slt K ca F' m' σ' env' ∧ Stp F1 m1 H1 F' m' H' ∧ PoS K ca F' m' H' W Dn (forL gf f k.gd (k.ds.drop i) env' A')) ⟨F1, m1, A1, env, R1, S.stp g1, Stp.refl, PoS.stp p g1⟩ ?_ ?_ ?_
    · rintro i σ' H' hi ⟨F', m', A', env', R', S', g', p'⟩
      refine hG F' m' A' H' ?_ R' g'
      cases z : k.ds.drop i with
      | nil => rw [z] at p'; unfold forL at p'; split at p'; assumption; exact p'.elim
      | cons d ds => rw [z] at p'; unfold forL at p'; split at p'; assumption; exact p'.elim
    · rintro i x σ2 H2 H3 hlt ⟨F2, m2, A2, env2, R2, S2, g2, p2⟩ y
      rw [List.drop_eq_getElem_cons hlt] at p2
      have gd2 : k.gd A2 := by
        by_cases z : k.gd A2
        · exact z
        · unfold forL at p2; rw [if_neg z] at p2; exact p2.elim
      have st3 : ∃ F3, Rl K ca F3 m2 A2 H3 ∧ Stp F2 m2 H2 F3 m2 H3 ∧ Rep K ca F3 m2 x k.ds[i] := by
        rcases hY i k.ds[i] x F2 m2 A2 H2 H3 (by simp [hlt]) gd2 R2 g2 y with ⟨e, rp⟩ | ⟨T, vs, l, q1, q2, q3, q4, q5⟩
        · subst e; exact ⟨F2, R2, Stp.refl, rp⟩
        · subst q4
          rw [q1, q2]
          obtain ⟨R3, g3⟩ := R2.new (u := .tup vs) q3
          exact ⟨_, R3, g3, .tup upd_same (q5.mono g3.ff g3.mm)⟩
      obtain ⟨F3, R3, g3, rp⟩ := st3
      have p3 := PoS.stp p2 g3
      unfold forL at p3
      rw [if_pos gd2] at p3
      cases z : gf k.ds[i] env2 A2 with
      | none => rw [z] at p3; exact p3.elim
      | some env3 =>
        rw [z] at p3
        refine hg F3 m2 A2 σ2 H3 env2 x k.ds[i] env3 R3 (S2.stp g3) rp z _ fun σ3 S3 _ _ => ?_
        refine h F3 m2 A2 σ3 H3 env3 _ R3 S3 ?_
        cases y : f env3 A2 with
        | nx e A4 => simp only [y] at p3; exact fun F4 m4 σ4 H4 R4 g4 S4 => ⟨F4, m4, A4, e, R4, S4, (g2.trans g3).trans g4, PoS.stp p3 g4⟩
        | ct e A4 => simp only [y] at p3; exact fun F4 m4 σ4 H4 R4 g4 S4 => ⟨F4, m4, A4, e, R4, S4, (g2.trans g3).trans g4, PoS.stp p3 g4⟩
        | bk e A4 => simp only [y] at p3; exact p3
        | rt d A4 => simp only [y] at p3; exact p3
        | exc C e A4 => simp only [y] at p3; exact p3
        | stuck => simp only [y] at p3; exact p3
    · rintro σ' H' ⟨F', m', A', env', R', S', g', p'⟩
      rw [List.drop_length] at p'
      unfold forL at p'
      split at p'
      · exact p' F' m' σ' H' R' Stp.refl S'
      · exact p'.elim
end
end SM

/-! ## comprehensions, new instances, methods, defs -/
namespace SM
open PySem L2
open DL (Ex ExK)
section
variable {K : PySem.W.Frag} {ca : String → Addr} {F F1 F2 H H1 H2 : Hp} {m m1 m2 : List Addr} {A A1 A2 : Hs} {σ : L2.St} {env : Sl} {W : WX}
variable {ta tb tc te : TE} {a b c : E} {i : Nat} {d : D} {t u : TT} {ft fu : Tt} {ts : TA} {as : As} {x : V} {dx : D} {C : String} {fs : List (String × D)} {cs : List String}
theorem Slt.wiped (S : Slt K ca F m σ env) : ∀ vs : List Nat, Slt K ca F m (L2.wipe σ vs) (wipeS env vs)
  | [] => S
  | v :: vs => (Slt.wiped S vs).unset
theorem wipe_same {σ : L2.St} {σ2 : L2.St} {vs js : List Nat} (hj : ∀ j ∈ js, j ∈ vs) (l4 : σ2.length = (L2.wipe σ vs).length) (q4 : ∀ i : Nat, i ∉ js → σ2[i]? = (L2.wipe σ vs)[i]?) : L2.wipe σ2 vs = L2.wipe σ vs := by
  have len : ∀ (a : L2.St) (us : List Nat), (L2.wipe a us).length = a.length := fun a us => wipe_length a us
  have inn : ∀ (a : L2.St) (us : List Nat) (n : Nat), n ∈ us → n < a.length → (L2.wipe a us)[n]? = some none := fun a us => by
    induction us with
    | nil => intro n h _; simp at h
    | cons v us ih =>
      intro n h hl
      unfold L2.wipe
      by_cases z : v = n
      · subst z; rw [List.getElem?_set_self (by rw [len]; exact hl)]
      · rw [List.getElem?_set_ne z]
        exact ih n (by simp only [List.mem_cons] at h; rcases h with h | h; exact absurd h.symm z; exact h) hl
  apply List.ext_getElem?
  intro n
  by_cases z : n ∈ vs
  · by_cases hl : n < σ.length
    · rw [inn σ2 vs n z (by rw [l4, len]; exact hl), inn σ vs n z hl]
    · rw [List.getElem?_eq_none (by rw [len, l4, len]; omega), List.getElem?_eq_none (by rw [len]; omega)]
  · rw [DL.wipe_out z, q4 n (fun y => z (hj n y)), DL.wipe_out z]
theorem se_lc {wi : TI} {w : Sl → Hs → RE Wk} {g : TG} {gf : G} {js vs : List Nat} {W2 : WX} (hi : SimI K ca W wi w) (hg : SimG K ca g gf js) (hj : ∀ j ∈ js, j ∈ vs) (ht : SimT K ca W2 t ft) (ha : SimE K ca W2 ta a) : SimE K ca W (tLc wi g t ta vs) (eLc w gf ft a vs) := fun F m A σ H env Q R S p => by
  refine hi F m A σ H env _ R S ?_
  unfold eLc at p
  cases q : w env A with
  | stuck => rw [q] at p; exact p
  | exc C A1 => rw [q] at p; exact p
  | ok k A1 =>
    rw [q] at p
    rintro J F1 m1 H1 R1 g1 ⟨G, Y, wk, hG, hY⟩ Dl hD
    have p := Po.stp (r := match lcL gf ft a k.gd (wipeS env vs) k.ds [] A1 with
      | .ok l A2 => alloc A2 (.lst l)
      | _ => .stuck) p g1
    obtain ⟨R2, g2⟩ := R1.newH (u := .lst []) hD
    -- the plain run from turn i
    let run := fun (i : Nat) (acc : List D) (A' : Hs) => match lcL gf ft a k.gd (wipeS env vs) (k.ds.drop i) acc A' with
      | .ok l A2 => alloc A2 (.lst l)
      | _ => RE.stuck
    refine lc_it wk (fun i H' => ∃ F' m' A' acc ws, Rl K ca F' m' A' H' ∧ Stp F1 m1 H1 F' m' H' ∧ H' Dl = some (.lst ws) ∧ Dl ∉ m' ∧ F' Dl = none ∧ RepL K ca F' m' ws acc ∧ Po K ca (Rep K ca) F1 m1 H1 W σ Q (run i acc A')) ?_ ?_ ?_ ?_
    · exact ⟨F1, m1, A1, [], [], R2, g2, upd_same, R1.out hD, R1.fh.back hD, .nil, p⟩
    · rintro i H' hi ⟨F', m', A', acc, ws, R', g', d1, d2, d3, rs, p'⟩
      refine hG F' m' A' H' ?_ R' g'
      show k.gd A'
      dsimp only [run] at p'
      cases z : k.ds.drop i with
      | nil =>
        rw [z] at p'; unfold lcL at p'
        by_cases y : k.gd A'
        · exact y
        · rw [if_neg y] at p'; exact p'.elim
      | cons d ds =>
        rw [z] at p'; unfold lcL at p'
        by_cases y : k.gd A'
        · exact y
        · rw [if_neg y] at p'; exact p'.elim
    · rintro i x H2 H3 hlt ⟨F2, m2, A2, acc, ws, R2, g2, d1, d2, d3, rs, p2⟩ y
      have gd2 : k.gd A2 := by
        dsimp only [run] at p2
        rw [List.drop_eq_getElem_cons hlt] at p2
        by_cases z : k.gd A2
        · exact z
        · unfold lcL at p2; rw [if_neg z] at p2; exact p2.elim
      have st3 : ∃ F3, Rl K ca F3 m2 A2 H3 ∧ Stp F2 m2 H2 F3 m2 H3 ∧ Rep K ca F3 m2 x k.ds[i] ∧ H3 Dl = some (.lst ws) ∧ F3 Dl = none := by
        rcases hY i k.ds[i] x F2 m2 A2 H2 H3 (by simp [hlt]) gd2 R2 g2 y with ⟨e, rp⟩ | ⟨T, us, l, q1, q2, q3, q4, q5⟩
        · subst e; exact ⟨F2, R2, Stp.refl, rp, d1, d3⟩
        · subst q4
          rw [q1, q2]
          obtain ⟨R3, g3⟩ := R2.new (u := .tup us) q3
          have nT : Dl ≠ T := fun z => by rw [← z, d1] at q3; cases q3
          exact ⟨_, R3, g3, .tup upd_same (q5.mono g3.ff g3.mm), by rw [upd_ne nT]; exact d1, by rw [upd_ne nT]; exact d3⟩
      obtain ⟨F3, R3, g3, rp, e1, e3⟩ := st3
      have rs3 := rs.mono g3.ff g3.mm
      have p3 := p2
      dsimp only [run] at p3
      rw [List.drop_eq_getElem_cons hlt] at p3
      unfold lcL at p3
      by_cases gd : k.gd A2
      · rw [if_pos gd] at p3
        cases z : gf k.ds[i] (wipeS env vs) A2 with
        | none => rw [z] at p3; exact p3.elim
        | some env3 =>
          rw [z] at p3
          have S3 := (((S.stp g1).stp g2).stp g3).wiped vs
          refine hg F3 m2 A2 (L2.wipe σ vs) H3 _ x k.ds[i] env3 R3 S3 rp z _ fun σ3 S4 l4 k4 => ?_
          refine ⟨wipe_same hj l4 k4, ?_⟩
          -- what a step keeps of the new list
          have keep : ∀ {F' m' A' H'}, Rl K ca F' m' A' H' → Stp F3 m2 H3 F' m' H' → H' Dl = some (.lst ws) ∧ Dl ∉ m' ∧ F' Dl = none := fun R' g' => by
            have h1 := g'.kp Dl _ e1 d2
            refine ⟨h1, fun z => ?_, ?_⟩
            · rcases g'.gm Dl z with y | y
              · exact d2 y
              · rw [e1] at y; cases y
            · rename_i F' m' A' H'
              cases w : F' Dl with
              | none => rfl
              | some v =>
                rcases g'.gn Dl (by rw [w]; simp) with y | y
                · exact absurd e3 y
                · rw [e1] at y; cases y
          refine ht F3 m2 A2 σ3 H3 env3 _ R3 S4 ?_
          cases y : ft env3 A2 with
          | stuck => simp only [y] at p3; exact p3.elim
          | exc C A4 => simp only [y] at p3; exact p3.elim
          | ok bb A4 =>
            intro v F4 m4 H4 R4 g4 ev
            cases (show v = bb from ev)
            cases bb with
            | false =>
              simp only [y] at p3
              obtain ⟨f1, f2, f3⟩ := keep R4 g4
              exact ⟨F4, m4, A4, acc, ws, R4, (g2.trans g3).trans g4, f1, f2, f3, rs3.mono g4.ff g4.mm, p3⟩
            | true =>
              simp only [y] at p3
              have p4 := p3
              refine ha F4 m4 A4 σ3 H4 env3 _ R4 (S4.stp g4) ?_
              cases y2 : a env3 A4 with
              | stuck => simp only [y2] at p4; exact p4.elim
              | exc C A5 => simp only [y2] at p4; exact p4.elim
              | ok dz A5 =>
                simp only [y2] at p4
                by_cases hl : acc.length < sizeLine
                · rw [if_pos hl] at p4
                  intro v F5 m5 H5 R5 g5 rv
                  obtain ⟨f1, f2, f3⟩ := keep R5 (g4.trans g5)
                  refine ⟨ws, f1, by rw [rs.length]; exact hl, ?_⟩
                  have rs5 := rs3.mono (g4.trans g5).ff (g4.trans g5).mm
                  -- the new list grows
                  have ne : ∀ a, a ∈ m5 → a ≠ Dl := fun a ha z => f2 (by rw [← z]; exact ha)
                  have R6 : Rl K ca F5 m5 A5 (upd H5 Dl (.lst (ws ++ [v]))) := ⟨R5.fh.right f3, R5.len, R5.nd, R5.fr, fun j o b h1 h2 => (R5.ob j o b h1 h2).mono (Ex.refl _) (Pre.refl _) fun w hw => by
                    rw [upd_ne (ne b (List.mem_of_getElem? h2))]; exact hw⟩
                  have nD0 : H1 Dl = none := hD
                  have gA : Stp F1 m1 H1 F5 m5 H5 := ((g2.trans g3).trans g4).trans g5
                  have gB : Stp F1 m1 H1 F5 m5 (upd H5 Dl (.lst (ws ++ [v]))) := ⟨gA.ff, gA.mm, fun b w h n => by
                      rw [upd_ne fun z => by rw [z, nD0] at h; cases h]; exact gA.kp b w h n, gA.gn, gA.gm, fun b h z => by
                      by_cases w : b = Dl
                      · rw [w, nD0] at h; exact h rfl
                      · rw [upd_ne w] at z; exact gA.th b h z, fun b od w h => by
                      rw [upd_ne fun z => by rw [z, nD0] at h; cases h]; exact gA.fz b od w h⟩
                  refine ⟨F5, m5, A5, acc ++ [dz], ws ++ [v], R6, gB, upd_same, f2, f3, rs5.append (.cons rv .nil), p4⟩
                · rw [if_neg hl] at p4; exact p4.elim
      · rw [if_neg gd] at p3; exact p3.elim
    · rintro H' ⟨F', m', A', acc, ws, R', g', d1, d2, d3, rs, p'⟩
      dsimp only [run] at p'
      rw [List.drop_length] at p'
      unfold lcL at p'
      by_cases gd : k.gd A'
      · rw [if_pos gd] at p'
        have R2 := R'.take (o := .lst acc) d2 d3 ⟨ws, d1, rs.mono (Ex.refl _) ⟨_, rfl⟩⟩
        refine p' (.ref Dl) F' (m' ++ [Dl]) H' R2 ⟨g'.ff, g'.mm.trans ⟨_, rfl⟩, g'.kp, g'.gn, fun b h => ?_, g'.th, g'.fz⟩ (.ref (by rw [List.getElem?_append_right (by rw [R'.len]; exact Nat.le_refl _), R'.len]; simp))
        rcases List.mem_append.mp h with z | z
        · exact g'.gm b z
        · rw [List.mem_singleton] at z; rw [z]; exact .inr hD
      · rw [if_neg gd] at p'; exact p'.elim

/-! ### new instances -/
theorem make_sim {f : Fn} {vs : List V} {ds : List D} {Q : VK} {X : XK} {x dx : Addr} (R1 : Rl K ca F m A H) (rs : RepL K ca F m vs ds) (hx : H x = none) (hdx : H dx = none) (hne : dx ≠ x) (p : PoF K ca F m H Q X (make C f ds A)) :
    SpF K ca f (.ref x :: vs) (upd (upd H dx (.own x)) x (.ins (ca C) dx [])) (fun v H2 => v = .non ∧ Q (.ref x) H2) X := by
  obtain ⟨R2, g2⟩ := R1.newH (u := .own x) hdx
  have hx2 : (upd H dx (.own x)) x = none := by rw [upd_ne (Ne.symm hne)]; exact hx
  obtain ⟨R3, g3, r3⟩ := R2.alloc (u := .ins (ca C) dx []) (o := .obj C []) hx2 ⟨dx, [], upd_same, .nil⟩
  have g := g2.trans g3
  refine ⟨F, m ++ [x], A ++ [.obj C []], .ref A.length :: ds, R3, .cons r3 (rs.mono g.ff g.mm), ?_⟩
  unfold make at p
  cases q : f (.ref A.length :: ds) (A ++ [.obj C []]) with
  | stuck => rw [q] at p; exact p
  | exc Ce A2 => rw [q] at p; exact fun F' m' H' R' g' => p F' m' H' R' (g.trans g')
  | ok d A2 =>
    rw [q] at p
    intro v F' m' H' R' g' rv
    cases rv with
    | non => exact ⟨rfl, p (.ref x) F' m' H' R' (g.trans g') (r3.mono g'.ff g'.mm)⟩
    | _ => exact p.elim
theorem se_make {f : Fn} (hs : SimA K ca W ts as) : SimE K ca W (tMakeS (ca C) (SpF K ca f) (WE W) ts) (eMake C f as) := fun F m A σ H env Q R S p =>
  hs.bind R S p fun F1 m1 A1 H1 xs ds R1 g1 S1 rs p1 => fun x dx hx hdx hne => make_sim R1 rs hx hdx hne (pof_po p1)
/-! ### methods, by the classes at hand -/
theorem methX_sim {f : Fn} {mm : String} {mm' : Str} {Q : VK} {X : XK} (hf : mm' = fS mm) (R : Rl K ca F m A H) (S : Slt K ca F m σ env) (hs : SimA K ca W ts as) (rx : Rep K ca F m x dx) {fs : List (String × D)} (ho : objAt A dx = some (C, fs)) (hn : fs.lookup mm = none)
    {k : RE D → RE D} (hk : ∀ {F1 m1 H1 r}, Po K ca (Rep K ca) F1 m1 H1 W σ Q (k r) → PoF K ca F1 m1 H1 Q X r)
    (p : Po K ca (Rep K ca) F m H W σ Q ((as env A).bind fun ds A2 => k (f (dx :: ds) A2))) : ∃ a dxx kvs, x = .ref a ∧ H a = some (.ins (ca C) dxx kvs) ∧ kvs.lookup mm' = none ∧ ts σ H fun vs H2 => SpF K ca f (x :: vs) H2 Q X := by
  obtain ⟨i, a, dxx, kvs, e1, e2, h1, h2, h3, h4⟩ := obj_at R rx ho
  refine ⟨a, dxx, kvs, e2, h3, by rw [hf]; exact (fS_look (f := mm) h4).2 hn, ?_⟩
  exact hs.bind R S p fun F1 m1 A1 H1 xs ds R1 g1 S1 rs p1 => ⟨F1, m1, A1, dx :: ds, R1, .cons (rx.mono g1.ff g1.mm) rs, hk p1⟩
theorem methOf_one {mm : String} {C : String} {f f' : Fn} {A : Hs} {x : D} (q : methOf mm [(C, f)] A x = some f') : f' = f ∧ ∃ fs, objAt A x = some (C, fs) ∧ fs.lookup mm = none := by
  unfold methOf at q
  cases z : objAt A x with
  | none => rw [z] at q; cases q
  | some w =>
    obtain ⟨C', fs⟩ := w
    rw [z] at q
    simp only at q
    split at q
    · cases q
    · rename_i hn
      rw [List.lookup_cons] at q
      cases y : (C' == C) with
      | false => rw [y] at q; cases q
      | true =>
        rw [y] at q
        cases q
        have e := eq_of_beq y
        subst e
        exact ⟨rfl, fs, rfl, by cases w : fs.lookup mm with
          | none => rfl
          | some _ => rw [w] at hn; exact absurd rfl hn⟩
theorem meth_one {mm : String} {mm' : Str} {f : Fn} (hf : mm' = fS mm) (ho : SimE K ca W ta a) (hs : SimA K ca W ts as) : SimE K ca W (tMethX (ca C) mm' (SpF K ca f) (WE W) ta ts) (eMeth mm [(C, f)] a as) := fun F m A σ H env Q R S p =>
  ho.bind R S p fun F1 m1 A1 H1 x dx R1 g1 S1 rx p1 => by
    cases q : methOf mm [(C, f)] A1 dx with
    | none => simp only [q] at p1; exact p1.elim
    | some f' =>
      simp only [q] at p1
      obtain ⟨rfl, fs, z, hn⟩ := methOf_one q
      exact methX_sim (k := fun r => r) hf R1 S1 hs rx z hn pof_po p1
end

/-! ### defs -/
section
variable {P : Program} {w : World} {K : PySem.W.Frag} {ca : String → Addr} {mg : Str → Option Value} {base : Heap} {x qn : Str} {st : Stmt} {fa : Addr} {fd : FuncData} {N ps : List Str} {k : Nat}
theorem spF_len {n mm : Nat} {b : S} {vs : List V} {H : Hp} {Q : VK} {E : XK} (h : SpF K ca (mkFn n mm b) vs H Q E) : vs.length = n := by
  obtain ⟨F, m, A, ds, R, rs, p⟩ := h
  rw [rs.length]
  unfold mkFn at p
  split at p
  · assumption
  · exact p.elim
theorem run_SpF {n : Nat} {b : S} {t : TS} {vs : List V} {H : Hp} {Q : VK} {E : XK} (h : SpF K ca (mkFn n N.length b) vs H Q E) (hb : SimS K ca (fun cls d _ H => E cls d H) t b) : t { nx := fun _ H' => Q .non H', rt := Q } (L2.start N vs) H := by
  have hl := spF_len h
  obtain ⟨F, m, A, ds, R, rs, p⟩ := h
  have hn : ds.length = n := by rw [← rs.length, hl]
  unfold mkFn at p
  rw [if_pos hn] at p
  have S : Slt K ca F m (L2.start N vs) (ds.map some ++ List.replicate (N.length - n) none) := by
    refine ⟨by unfold L2.start; simp [hl, hn], fun i d h => ?_⟩
    by_cases hi : i < ds.length
    · rw [List.getElem?_append_left (by simpa using hi), List.getElem?_map] at h
      cases z : ds[i]? with
      | none => rw [z] at h; cases h
      | some d' =>
        rw [z] at h; cases h
        obtain ⟨v, h1, h2⟩ := rs.get z
        refine ⟨v, ?_, h2⟩
        unfold L2.start
        have hv : i < vs.length := (List.getElem?_eq_some_iff.mp h1).1
        rw [List.getElem?_append_left (by simpa using hv), List.getElem?_map, h1]; rfl
    · rw [List.getElem?_append_right (by simpa using Nat.le_of_not_lt hi)] at h
      obtain ⟨h1, h2⟩ := List.getElem?_eq_some_iff.mp h
      rw [List.getElem_replicate] at h2
      cases h2
  refine hb F m A _ H _ _ R S ?_
  cases q : b (ds.map some ++ List.replicate (N.length - n) none) A with
  | nx e A' => rw [q] at p; exact fun F' m' σ' H' R' g' S' => p .non F' m' H' R' g' .non
  | rt d A' => rw [q] at p; exact p
  | exc C e A' => rw [q] at p; exact fun F' m' σ' H' R' g' S' => p F' m' H' R' g'
  | bk e A' => rw [q] at p; exact p.elim
  | ct e A' => rw [q] at p; exact p.elim
  | stuck => rw [q] at p; exact p.elim
/-- a def that may raise -/
theorem Fn.ofF {n : Nat} {b : S} (F : Fun K x qn st fa fd) (S : FnScope N ps (defScope st)) (hn : ps.length = n)
    (body : ∀ (cdv : Value) (A : Around) (outer : List PySem.Env) (s : Shared) (H : Hp) (E : XK), Room k (A.deeper (PyProof.Rows.envOfC qn (defScope st) s.heap.objs.size fa cdv)) →
      ∃ t, PSs (cxOf (L2.CX P w) P w K mg base N qn (defScope st) fa cdv A outer s H E) (defBody st) t ∧ SimS K ca (fun cls d _ H => E cls d H) t b) : FnOk P w K mg base (L2.CX P w) (k + 1) fa fd ps (SpF K ca (mkFn n N.length b)) :=
  F.okX S (fun vs H Q E h => by rw [hn]; exact spF_len h) fun cdv A outer s H vs Q E hr h => by
    obtain ⟨t, h1, h2⟩ := body cdv A outer s H E hr
    exact ⟨t, h1, run_SpF h h2⟩
/-- a def that lets nothing out -/
theorem Fn.ofF0 {n : Nat} {b : S} (F : Fun K x qn st fa fd) (S : FnScope N ps (defScope st)) (hn : ps.length = n)
    (body : ∀ (cdv : Value) (A : Around) (outer : List PySem.Env) (s : Shared) (H : Hp) (E : XK), Room k (A.deeper (PyProof.Rows.envOfC qn (defScope st) s.heap.objs.size fa cdv)) →
      ∃ t, PSs (cxOf CX0 P w K mg base N qn (defScope st) fa cdv A outer s H E).nox (defBody st) t ∧ SimS K ca (fun cls d _ H => E cls d H) t b) : FnOk P w K mg base CX0 (k + 1) fa fd ps (SpF K ca (mkFn n N.length b)) :=
  F.ok S (fun vs H Q E h => by rw [hn]; exact spF_len h) fun cdv A outer s H vs Q E hr h => by
    obtain ⟨t, h1, h2⟩ := body cdv A outer s H E hr
    exact ⟨t, h1, run_SpF h h2⟩
end
/-! ### methods by name -/
structure Mt (P : Program) (w : World) (K : PySem.W.Frag) (mg : Str → Option Value) (base : Heap) (k : Nat) (C : Addr) (mm : Str) (sp : Sp) : Prop where
  ex : ∃ (f : Addr) (fd : FuncData) (ps : List Str), Meth K C mm f ∧ FnOk P w K mg base (L2.CX P w) k f fd ps sp ∧ Binds K fd ps []
theorem Mt.of {P : Program} {w : World} {K : PySem.W.Frag} {mg : Str → Option Value} {base : Heap} {k : Nat} {C fa : Addr} {mm : Str} {fd : FuncData} {ps : List Str} {sp : Sp} (M : Meth K C mm fa) (h : FnOk P w K mg base (L2.CX P w) k fa fd ps sp) (b : Binds K fd ps []) : Mt P w K mg base k C mm sp := ⟨fa, fd, ps, M, h, b⟩
section
variable {X : Cx} {W : WX} {k j : Nat} {x mm : Str} {C : Addr} {sp : Sp} {p pos apos : Pos} {o e : Expr} {es : List Expr} {t : TA} {ta : TE}
theorem pe_mtX {pl : Sem Bool} (c : Mt X.prog X.w X.K X.mg X.base k C mm sp) (tk : Takes X W) (hr : Room j X.A) (hk : k ≤ j) (cl : Cls X.K C) (he : PE X o ta) (ha : PA X (e :: es) t)
    (hst : starEach (e :: es) X.env = (false, eval e X.env) :: starEach es X.env := by rfl) (hpl : (backTo pos (starEach es X.env)).any (·.1) = false := by rfl)
    (ht : eval (.Call (.Attribute o mm apos) (e :: es) [] pos) X.env = (do
      let ov ← eval o X.env
      standAt apos.atName
      let (f, first) ← holding [ov] (getMethod ov mm pl)
      callWith pos f first (backTo pos (starEach (e :: es) X.env)) (backToKw pos (keywordEach [] X.env))) := by rfl) :
    PE X (.Call (.Attribute o mm apos) (e :: es) [] pos) (tMethX C mm sp (WE W) ta t) := by
  obtain ⟨f, fd, ps, M, F, b⟩ := c.ex
  exact pe_methX he cl M F (hr.mono hk) b (fun σ => passAt tk σ) ha hst hpl ht
theorem pe_mtX0 {pl : Sem Bool} (c : Mt X.prog X.w X.K X.mg X.base k C mm sp) (tk : Takes X W) (hr : Room j X.A) (hk : k ≤ j) (cl : Cls X.K C) (he : PE X o ta)
    (ht : eval (.Call (.Attribute o mm apos) [] [] pos) X.env = (do
      let ov ← eval o X.env
      standAt apos.atName
      let (f, first) ← holding [ov] (getMethod ov mm pl)
      callWith pos f first (backTo pos (starEach [] X.env)) (backToKw pos (keywordEach [] X.env))) := by rfl) :
    PE X (.Call (.Attribute o mm apos) [] [] pos) (tMethX C mm sp (WE W) ta tNil) := by
  obtain ⟨f, fd, ps, M, F, b⟩ := c.ex
  exact pe_methX0 he cl M F (hr.mono hk) b (fun σ => passAt tk σ) ht
open DL (Dx)
end
end SM

/-! ## == and in, of data of any texts -/
namespace L2
open PySem PySem.Spec PyProof.Rows
/-- two lists of different lengths -/
def UnL (H : Hp) (x y : V) : Prop := ∃ a b xs ys, x = .ref a ∧ y = .ref b ∧ H a = some (.lst xs) ∧ H b = some (.lst ys) ∧ xs.length ≠ ys.length
def rEqP (K : PySem.W.Frag) : R2 := fun x y H Q => (∃ d e, Dp K H x d ∧ Dp K H y e ∧ d.plain = true ∧ e.plain = true ∧ d.depth ≤ 60 ∧ Q (.bl (PyData.eqv d e)) H) ∨ (UnL H x y ∧ Q (.bl false) H)
def rNeP (K : PySem.W.Frag) : R2 := fun x y H Q => (∃ d e, Dp K H x d ∧ Dp K H y e ∧ d.plain = true ∧ e.plain = true ∧ d.depth ≤ 60 ∧ Q (.bl (!PyData.eqv d e)) H) ∨ (UnL H x y ∧ Q (.bl true) H)
theorem op_eqP {X : Cx} (hu : X.A.units + 64 < cLine) : OpR X (compareOp .Eq) (rEqP X.K) := by
  intro pins s σ H x y v u Q I rx ry h
  rcases h with ⟨d, e, hd, he, sd, se, dp, q⟩ | ⟨⟨a, b, xs, ys, rfl, rfl, ha, hb, hl⟩, q⟩
  · obtain ⟨as, r1⟩ := Dp.reads I d x v hd rx
    obtain ⟨bs, r2⟩ := Dp.reads I e y u he ry
    exact PySem.SeqAt.eq_plain r1 r2 sd se (by omega) ⟨.bl _, H, I, rfl, q⟩
  · cases (show v = Value.ref a from rx)
    cases (show u = Value.ref b from ry)
    obtain ⟨us, r1, p1, _⟩ := I.list (.inl (.inl ha))
    obtain ⟨ws, r2, p2, _⟩ := I.list (.inl (.inl hb))
    refine PySem.SeqAt.eq_list_lengthsAt p1.isList p2.isList ?_ (by omega) ⟨.bl _, H, I, rfl, q⟩
    rw [List.size_toArray, List.size_toArray, ← r1.length, ← r2.length]
    simpa using hl
theorem op_neP {X : Cx} (hu : X.A.units + 64 < cLine) : OpR X (compareOp .NotEq) (rNeP X.K) := by
  intro pins s σ H x y v u Q I rx ry h
  rcases h with ⟨d, e, hd, he, sd, se, dp, q⟩ | ⟨⟨a, b, xs, ys, rfl, rfl, ha, hb, hl⟩, q⟩
  · obtain ⟨as, r1⟩ := Dp.reads I d x v hd rx
    obtain ⟨bs, r2⟩ := Dp.reads I e y u he ry
    exact PySem.SeqAt.ne_plain r1 r2 sd se (by omega) ⟨.bl _, H, I, rfl, q⟩
  · cases (show v = Value.ref a from rx)
    cases (show u = Value.ref b from ry)
    obtain ⟨us, r1, p1, _⟩ := I.list (.inl (.inl ha))
    obtain ⟨ws, r2, p2, _⟩ := I.list (.inl (.inl hb))
    refine PySem.SeqAt.RcNeAt.lists_lengths p1.isList p2.isList ?_ (by omega) X.prog X.w _ _ ⟨.bl _, H, I, rfl, q⟩
    rw [List.size_toArray, List.size_toArray, ← r1.length, ← r2.length]
    simpa using hl
end L2
namespace SM
open PySem L2
open DL (Ex ExK rAddU rSubU rMulA rDivU rModU rPowU rShlU rShrU rAndU rOrU rXorU rLtU rLeU rGtU rGeU rIsU rNotU)

/-! ### data read as Python's -/
def allSome {α : Type} : List (Option α) → Option (List α)
  | [] => some []
  | some a :: r => (allSome r).map (a :: ·)
  | none :: _ => none
def pyA (A : Hs) : Nat → D → Option PyData
  | _, .non => some .none
  | _, .bl b => some (.bool b)
  | _, .int i => some (.int i)
  | _, .str x => some (.str x)
  | n + 1, .tup l => (allSome (l.map (pyA A n))).map .tuple
  | n + 1, .wt l => (allSome (l.map (pyA A n))).map .tuple
  | n + 1, .scr l => (allSome (l.map (pyA A n))).map .list
  | n + 1, .ref i => match A[i]? with
    | some (.lst l) => (allSome (l.map (pyA A n))).map .list
    | _ => none
  | _, _ => none

/-- two lists of different lengths -/
def unL (A : Hs) (x y : D) : Option Bool := match x, y with
  | .ref i, .ref j => match A[i]?, A[j]? with
    | some (.lst l), some (.lst k) => if l.length = k.length then none else some false
    | _, _ => none
  | _, _ => none
def eqA (A : Hs) (x y : D) : Option Bool := match pyA A 40 x, pyA A 40 y with
  | some p, some q => some (PyData.eqv p q)
  | _, _ => unL A x y
def oB (f : Hs → D → D → Option Bool) (x y : D) (A : Hs) : RE D := match f A x y with
  | some b => .ok (.bl b) A
  | none => .stuck
def oEq : D → D → Hs → RE D := oB eqA
def oNe : D → D → Hs → RE D := oB fun A x y => (eqA A x y).map (!·)
section
variable {K : PySem.W.Frag} {ca : String → Addr} {F F1 F2 H H1 H2 : Hp} {m m1 m2 : List Addr} {A A1 A2 : Hs} {σ : L2.St} {env : Sl} {W : WX} {Q : VK}
theorem dp_all {n : Nat} (R : Rl K ca F m A H) (ih : ∀ {v : V} {d : D} {p : PyData}, Rep K ca F m v d → pyA A n d = some p → Dp K H v p ∧ p.plain = true ∧ p.depth ≤ n) :
    ∀ {vs : List V} {l : List D} {ps : List PyData}, RepL K ca F m vs l → allSome (l.map (pyA A n)) = some ps → DpAll K H vs ps ∧ PyData.plainAll ps = true ∧ PyData.depthAll ps ≤ n
  | _, _, _, .nil, h => by cases h; exact ⟨.nil, rfl, Nat.zero_le _⟩
  | _, _, _, .cons (d := d) (ds := ds) r rs, h => by
    rw [List.map_cons] at h
    cases q : pyA A n d with
    | none => rw [q] at h; cases h
    | some p =>
      rw [q] at h
      unfold allSome at h
      cases q2 : allSome (ds.map (pyA A n)) with
      | none => rw [q2] at h; cases h
      | some ps =>
        rw [q2] at h
        cases h
        obtain ⟨h1, h2, h3⟩ := ih r q
        obtain ⟨g1, g2, g3⟩ := dp_all R ih rs q2
        exact ⟨.cons h1 g1, by unfold PyData.plainAll; rw [h2, g2]; rfl, by unfold PyData.depthAll; omega⟩
theorem dp_of (R : Rl K ca F m A H) : ∀ {n : Nat} {v : V} {d : D} {p : PyData}, Rep K ca F m v d → pyA A n d = some p → Dp K H v p ∧ p.plain = true ∧ p.depth ≤ n := by
  intro n
  induction n with
  | zero =>
    intro v d p r h
    cases r <;> simp [pyA] at h <;> subst h <;> exact ⟨by constructor, rfl, Nat.zero_le _⟩
  | succ n ih =>
    intro v d p r h
    cases r with
    | non => simp [pyA] at h; subst h; exact ⟨.non, rfl, Nat.zero_le _⟩
    | bl b => simp [pyA] at h; subst h; exact ⟨.bl b, rfl, Nat.zero_le _⟩
    | int i => simp [pyA] at h; subst h; exact ⟨.int i, rfl, Nat.zero_le _⟩
    | str x => simp [pyA] at h; subst h; exact ⟨.str x, rfl, Nat.zero_le _⟩
    | ty n => simp [pyA] at h
    | nm x => simp [pyA] at h
    | exc h' => simp [pyA] at h
    | tup s rs =>
      unfold pyA at h
      cases q : allSome (List.map (pyA A n) _) with
      | none => rw [q] at h; cases h
      | some ps =>
        rw [q] at h; cases h
        obtain ⟨h1, h2, h3⟩ := dp_all R ih rs q
        exact ⟨.tup (.inl (.inl (R.fh _ _ s))) h1, h2, by unfold PyData.depth; omega⟩
    | wt s rs =>
      unfold pyA at h
      cases q : allSome (List.map (pyA A n) _) with
      | none => rw [q] at h; cases h
      | some ps =>
        rw [q] at h; cases h
        obtain ⟨h1, h2, h3⟩ := dp_all R ih rs q
        exact ⟨.tup (R.fh.t s) h1, h2, by unfold PyData.depth; omega⟩
    | scr s rs =>
      unfold pyA at h
      cases q : allSome (List.map (pyA A n) _) with
      | none => rw [q] at h; cases h
      | some ps =>
        rw [q] at h; cases h
        obtain ⟨h1, h2, h3⟩ := dp_all R ih rs q
        exact ⟨.lst (R.fh.l s) h1, h2, by unfold PyData.depth; omega⟩
    | ref hm =>
      rename_i a i
      unfold pyA at h
      cases q0 : A[i]? with
      | none => simp [q0] at h
      | some o =>
        cases o with
        | lst l =>
          simp only [q0] at h
          obtain ⟨a', e, ha, vs, h1, h2⟩ := R.at (v := .ref a) q0 (.ref hm)
          cases e
          cases q : allSome (List.map (pyA A n) l) with
          | none => rw [q] at h; cases h
          | some ps =>
            rw [q] at h; cases h
            obtain ⟨h3, h4, h5⟩ := dp_all R ih h2 q
            exact ⟨.lst (.inl (.inl h1)) h3, h4, by unfold PyData.depth; omega⟩
        | dic _ _ _ => simp [q0] at h
        | obj _ _ => simp [q0] at h
theorem po_ok {α β : Type} {Rr : Hp → List Addr → β → α → Prop} {Q : β → Hp → Prop} {v : β} {d : α} (R : Rl K ca F m A H) (r : Rr F m v d) (p : Po K ca Rr F m H W σ Q (.ok d A)) : Q v H := p v F m H R Stp.refl r
theorem unL_of {x y : V} {dx dy : D} {b : Bool} (R : Rl K ca F m A H) (rx : Rep K ca F m x dx) (ry : Rep K ca F m y dy) (h : unL A dx dy = some b) : b = false ∧ UnL H x y := by
  unfold unL at h
  split at h
  · rename_i i j
    cases q1 : A[i]? with
    | none => simp [q1] at h
    | some o1 =>
      cases o1 with
      | lst l =>
        cases q2 : A[j]? with
        | none => simp [q1, q2] at h
        | some o2 =>
          cases o2 with
          | lst k =>
            simp only [q1, q2] at h
            split at h
            · cases h
            · rename_i hn
              obtain ⟨a, e, _, vs, h1, h2⟩ := R.at q1 rx
              obtain ⟨a', e', _, vs', h1', h2'⟩ := R.at q2 ry
              refine ⟨(Option.some.inj h).symm, a, a', vs, vs', e, e', h1, h1', ?_⟩
              rw [h2.length, h2'.length]
              exact hn
          | dic _ _ _ => simp [q1, q2] at h
          | obj _ _ => simp [q1, q2] at h
      | dic _ _ _ => simp [q1] at h
      | obj _ _ => simp [q1] at h
  · cases h
theorem os_eq : OpS K ca (rEqP K) oEq := fun F m A H x y dx dy W σ Q R rx ry p => by
  unfold oEq oB at p
  cases q : eqA A dx dy with
  | none => rw [q] at p; exact p.elim
  | some b =>
    rw [q] at p
    unfold eqA at q
    split at q
    · rename_i p1 p2 q1 q2
      obtain ⟨a1, a2, a3⟩ := dp_of R rx q1
      obtain ⟨b1, b2, b3⟩ := dp_of R ry q2
      cases q
      exact .inl ⟨p1, p2, a1, b1, a2, b2, by omega, po_ok R (.bl _) p⟩
    · obtain ⟨rfl, u⟩ := unL_of R rx ry q
      exact .inr ⟨u, po_ok R (.bl _) p⟩
theorem os_ne : OpS K ca (rNeP K) oNe := fun F m A H x y dx dy W σ Q R rx ry p => by
  unfold oNe oB at p
  cases q : eqA A dx dy with
  | none => simp only [q, Option.map] at p; exact p.elim
  | some b =>
    simp only [q, Option.map] at p
    unfold eqA at q
    split at q
    · rename_i p1 p2 q1 q2
      obtain ⟨a1, a2, a3⟩ := dp_of R rx q1
      obtain ⟨b1, b2, b3⟩ := dp_of R ry q2
      cases q
      exact .inl ⟨p1, p2, a1, b1, a2, b2, by omega, po_ok R (.bl _) p⟩
    · obtain ⟨rfl, u⟩ := unL_of R rx ry q
      exact .inr ⟨u, po_ok R (.bl _) p⟩

/-! ### operators on ints -/
def oII (f : Int → Int → Option D) (x y : D) (A : Hs) : RE D := match x, y with
  | .int i, .int j => match f i j with
    | some d => .ok d A
    | none => .stuck
  | _, _ => .stuck
theorem os_ii {r : R2} {f : Int → Int → Option D} (h : ∀ i j d, f i j = some d → ∃ z, (∀ F m, Rep K ca F m z d) ∧ ∀ H Q, Q z H → r (.int i) (.int j) H Q) : OpS K ca r (oII f) := fun F m A H x y dx dy W σ Q R rx ry p => by
  cases rx with
  | int i =>
    cases ry with
    | int j =>
      unfold oII at p
      simp only at p
      cases q : f i j with
      | none => rw [q] at p; exact p.elim
      | some d =>
        rw [q] at p
        obtain ⟨z, hz, k⟩ := h i j d q
        exact k H Q (po_ok R (hz F m) p)
    | _ => exact p.elim
  | _ => exact p.elim
def oSub := oII fun i j => some (.int (i - j))
def oDiv := oII fun i j => if 0 < j ∧ j.natAbs.log2 < 9000 then some (.int (i / j)) else none
def oMod := oII fun i j => if 0 < j then some (.int (i % j)) else none
open Classical in
noncomputable def oPow := oII fun i j => if CPow i j then some (.int (i ^ j.toNat)) else none
def oLt := oII fun i j => some (.bl (decide (i < j)))
def oLe := oII fun i j => some (.bl (decide (i ≤ j)))
def oGt := oII fun i j => some (.bl (decide (j < i)))
def oGe := oII fun i j => some (.bl (decide (j ≤ i)))
theorem os_sub : OpS K ca rSubU oSub := os_ii fun i j d h => by cases h; exact ⟨_, fun _ _ => .int _, fun H Q q => ⟨i, j, rfl, rfl, q⟩⟩
theorem os_div : OpS K ca rDivU oDiv := os_ii fun i j d h => by
  split at h
  · rename_i z; cases h; exact ⟨_, fun _ _ => .int _, fun H Q q => ⟨i, j, rfl, rfl, z, q⟩⟩
  · cases h
theorem os_mod : OpS K ca rModU oMod := os_ii fun i j d h => by
  split at h
  · rename_i z; cases h; exact ⟨_, fun _ _ => .int _, fun H Q q => ⟨i, j, rfl, rfl, z, q⟩⟩
  · cases h
theorem os_pow : OpS K ca rPowU oPow := os_ii fun i j d h => by
  split at h
  · rename_i z; cases h; exact ⟨_, fun _ _ => .int _, fun H Q q => ⟨i, j, rfl, rfl, z, q⟩⟩
  · cases h
theorem os_lt : OpS K ca rLtU oLt := os_ii fun i j d h => by cases h; exact ⟨_, fun _ _ => .bl _, fun H Q q => ⟨i, j, rfl, rfl, q⟩⟩
theorem os_le : OpS K ca rLeU oLe := os_ii fun i j d h => by cases h; exact ⟨_, fun _ _ => .bl _, fun H Q q => ⟨i, j, rfl, rfl, q⟩⟩
theorem os_gt : OpS K ca rGtU oGt := os_ii fun i j d h => by cases h; exact ⟨_, fun _ _ => .bl _, fun H Q q => ⟨i, j, rfl, rfl, q⟩⟩
theorem os_ge : OpS K ca rGeU oGe := os_ii fun i j d h => by cases h; exact ⟨_, fun _ _ => .bl _, fun H Q q => ⟨i, j, rfl, rfl, q⟩⟩
def oNeg (x : D) (A : Hs) : RE D := match x with
  | .int i => .ok (.int (-i)) A
  | _ => .stuck
theorem us_neg : UnS K ca (rU fun i => .int (-i)) oNeg := fun F m A H x dx W σ Q R rx p => by
  cases rx with
  | int i => exact ⟨i, rfl, po_ok R (.int _) p⟩
  | _ => exact p.elim
/-- a list that may be read -/
def seqL (A : Hs) : D → Option (List D)
  | .ref i => match A[i]? with
    | some (.lst l) => some l
    | _ => none
  | .scr l => some l
  | _ => none
def seqT : D → Option (List D)
  | .tup l => some l
  | .wt l => some l
  | _ => none
theorem seqL_at {x : V} {d : D} {l : List D} (R : Rl K ca F m A H) (r : Rep K ca F m x d) (h : seqL A d = some l) : ∃ a vs, x = .ref a ∧ SqL K H a vs ∧ RepL K ca F m vs l := by
  cases r with
  | ref hm =>
    rename_i a i
    unfold seqL at h
    simp only at h
    cases q : A[i]? with
    | none => simp [q] at h
    | some o =>
      cases o with
      | lst l' =>
        simp [q] at h; subst h
        obtain ⟨a', e, ha, vs, h1, h2⟩ := R.at (v := .ref a) q (.ref hm)
        cases e
        exact ⟨a, vs, rfl, .inl (.inl h1), h2⟩
      | dic _ _ _ => simp [q] at h
      | obj _ _ => simp [q] at h
  | scr s rs => cases h; exact ⟨_, _, rfl, R.fh.l s, rs⟩
  | _ => cases h
theorem seqT_at {x : V} {d : D} {l : List D} (R : Rl K ca F m A H) (r : Rep K ca F m x d) (h : seqT d = some l) : ∃ a vs, x = .ref a ∧ SqT K H a vs ∧ RepL K ca F m vs l := by
  cases r with
  | tup s rs => cases h; exact ⟨_, _, rfl, .inl (.inl (R.fh _ _ s)), rs⟩
  | wt s rs => cases h; exact ⟨_, _, rfl, R.fh.t s, rs⟩
  | _ => cases h
/-- a list of the plain heap -/
theorem lst_at {x : V} {i : Nat} {l : List D} (R : Rl K ca F m A H) (r : Rep K ca F m x (.ref i)) (h : A[i]? = some (.lst l)) : ∃ a vs, x = .ref a ∧ m[i]? = some a ∧ H a = some (.lst vs) ∧ RepL K ca F m vs l := by
  obtain ⟨a, e, ha, vs, h1, h2⟩ := R.at h r
  exact ⟨a, vs, e, ha, h1, h2⟩
theorem lst_put {i : Nat} {l' : List D} {vs' : List V} (R : Rl K ca F m A H) {a : Addr} {vs : List V} (ha : m[i]? = some a) (h1 : H a = some (.lst vs)) (r : RepL K ca F m vs' l') :
    Rl K ca F m (A.set i (.lst l')) (upd H a (.lst vs')) ∧ Stp F m H F m (upd H a (.lst vs')) :=
  R.put (o' := .lst l') ha (fun od w z => by rw [h1] at z; cases z) ⟨vs', upd_same, r⟩

/-! ### + -/
def oAdd (x y : D) (A : Hs) : RE D := match x, y with
  | .int i, .int j => .ok (.int (i + j)) A
  | .str a, .str b => if a.length + b.length ≤ sizeLine then .ok (.str (a ++ b)) A else .stuck
  | .tup l, .tup k => if l.length + k.length ≤ sizeLine then .ok (.tup (l ++ k)) A else .stuck
  | .wt l, .tup k => if l ≠ [] ∧ l.length + k.length ≤ sizeLine then .ok (if k.isEmpty then .wt l else .tup (l ++ k)) A else .stuck
  | .tup l, .wt k => if k ≠ [] ∧ l.length + k.length ≤ sizeLine then .ok (if l.isEmpty then .wt k else .tup (l ++ k)) A else .stuck
  | .ref i, .ref j => match A[i]?, A[j]? with
    | some (.lst l), some (.lst k) => if l.length + k.length ≤ sizeLine then alloc A (.lst (l ++ k)) else .stuck
    | _, _ => .stuck
  | _, _ => .stuck
theorem os_add : OpS K ca (rAddU K) oAdd := fun F m A H x y dx dy W σ Q R rx ry p => by
  cases rx with
  | int i =>
    cases ry with
    | int j => exact .inl ⟨i, j, rfl, rfl, po_ok R (.int _) p⟩
    | _ => exact p.elim
  | str a =>
    cases ry with
    | str b =>
      unfold oAdd at p
      simp only at p
      split at p
      · rename_i hl; exact .inr (.inl ⟨a, b, rfl, rfl, hl, po_ok R (.str _) p⟩)
      · exact p.elim
    | _ => exact p.elim
  | tup s rs =>
    cases ry with
    | tup s' rs' =>
      rename_i a vs l b ws k
      unfold oAdd at p
      simp only at p
      split at p
      · rename_i hl
        refine .inr (.inr (.inl ⟨a, b, vs, ws, rfl, rfl, .inl (.inl (R.fh _ _ s)), .inl (.inl (R.fh _ _ s')), by rw [rs.length, rs'.length]; exact hl, fun e => ?_, fun _ e => ?_, fun _ _ q hq => ?_⟩))
        · subst e; cases rs; exact po_ok R (.tup s' rs') p
        · subst e; cases rs'; rw [List.append_nil] at p; exact po_ok R (.tup s rs) p
        · obtain ⟨R2, g2⟩ := R.new (u := .tup (vs ++ ws)) hq
          exact p _ _ _ _ R2 g2 (.tup upd_same ((rs.append rs').mono g2.ff g2.mm))
      · exact p.elim
    | wt s' rs' =>
      rename_i a vs l b ws k
      unfold oAdd at p
      simp only at p
      split at p
      · rename_i hl
        refine .inr (.inr (.inl ⟨a, b, vs, ws, rfl, rfl, .inl (.inl (R.fh _ _ s)), R.fh.t s', by rw [rs.length, rs'.length]; exact hl.2, fun e => ?_, fun _ e => ?_, fun n1 _ q hq => ?_⟩))
        · subst e; cases rs; exact po_ok R (.wt s' rs') p
        · subst e; cases rs'; exact absurd rfl hl.1
        · obtain ⟨R2, g2⟩ := R.new (u := .tup (vs ++ ws)) hq
          have : l.isEmpty = false := by
            cases rs with
            | nil => exact absurd rfl n1
            | cons _ _ => rfl
          rw [this] at p
          exact p _ _ _ _ R2 g2 (.tup upd_same ((rs.append rs').mono g2.ff g2.mm))
      · exact p.elim
    | _ => exact p.elim
  | wt s rs =>
    cases ry with
    | tup s' rs' =>
      rename_i a vs l b ws k
      unfold oAdd at p
      simp only at p
      split at p
      · rename_i hl
        refine .inr (.inr (.inl ⟨a, b, vs, ws, rfl, rfl, R.fh.t s, .inl (.inl (R.fh _ _ s')), by rw [rs.length, rs'.length]; exact hl.2, fun e => ?_, fun _ e => ?_, fun _ n2 q hq => ?_⟩))
        · subst e; cases rs; exact absurd rfl hl.1
        · subst e; cases rs'; exact po_ok R (.wt s rs) p
        · obtain ⟨R2, g2⟩ := R.new (u := .tup (vs ++ ws)) hq
          have : k.isEmpty = false := by
            cases rs' with
            | nil => exact absurd rfl n2
            | cons _ _ => rfl
          rw [this] at p
          exact p _ _ _ _ R2 g2 (.tup upd_same ((rs.append rs').mono g2.ff g2.mm))
      · exact p.elim
    | _ => exact p.elim
  | ref hm =>
    cases ry with
    | ref hm' =>
      rename_i a i b j
      unfold oAdd at p
      simp only at p
      split at p
      · rename_i l k q1 q2
        split at p
        · rename_i hl
          obtain ⟨a', vs, e1, h1, h2, h3⟩ := lst_at R (.ref hm) q1
          obtain ⟨b', ws, e2, h4, h5, h6⟩ := lst_at R (.ref hm') q2
          refine .inr (.inr (.inr ⟨a', b', vs, ws, e1, e2, h2, h5, by rw [h3.length, h6.length]; exact hl, fun q hq => ?_⟩))
          exact po_alloc (o := .lst (l ++ k)) R hq ⟨_, upd_same, (h3.append h6).mono (Ex.refl _) ⟨_, rfl⟩⟩ p
        · exact p.elim
      · exact p.elim
    | _ => exact p.elim
  | _ => exact p.elim
/-! ### * -/
open Classical in
noncomputable def oMul (x y : D) (A : Hs) : RE D := match x, y with
  | .int i, .int j => if CMul i j ∨ CMulX i j then .ok (.int (i * j)) A else .stuck
  | .tup l, .int j => if l.length ≤ 1000 ∧ -1000 ≤ j ∧ j ≤ 4000 then .ok (.tup (List.replicate j.toNat l).flatten) A else .stuck
  | .ref i, .int j => match A[i]? with
    | some (.lst l) => if -(2 ^ 63) ≤ j ∧ j < 2 ^ 63 ∧ l.length * j.toNat ≤ sizeLine then alloc A (.lst (List.replicate j.toNat l).flatten) else .stuck
    | _ => .stuck
  | _, _ => .stuck
theorem os_mul : OpS K ca (rMulA K) oMul := fun F m A H x y dx dy W σ Q R rx ry p => by
  cases ry with
  | int j =>
    cases rx with
    | int i =>
      unfold oMul at p
      simp only at p
      split at p
      · rename_i hc
        refine .inl ?_
        rcases hc with hc | hc
        · exact .inl ⟨i, j, rfl, rfl, hc, po_ok R (.int _) p⟩
        · exact .inr (.inl ⟨i, j, rfl, rfl, hc, po_ok R (.int _) p⟩)
      · exact p.elim
    | tup s rs =>
      rename_i a vs l
      unfold oMul at p
      simp only at p
      split at p
      · rename_i hc
        have lv := rs.length
        refine .inr ⟨a, j, vs, rfl, rfl, .inl (.inl (R.fh _ _ s)), hc.2.2, hc.2.1, by omega, fun e => ?_, fun e => ?_, fun n1 n2 q hq => ?_⟩
        · subst e; cases rs
          have : (List.replicate j.toNat ([] : List D)).flatten = [] := by simp
          rw [this] at p
          exact po_ok R (.tup s .nil) p
        · subst e
          have : (List.replicate (1 : Int).toNat l).flatten = l := by simp
          rw [this] at p
          exact po_ok R (.tup s rs) p
        · obtain ⟨R2, g2⟩ := R.new (u := .tup (List.replicate j.toNat vs).flatten) hq
          exact p _ _ _ _ R2 g2 (.tup upd_same ((rs.flatRep _).mono g2.ff g2.mm))
      · exact p.elim
    | ref hm =>
      rename_i a i
      unfold oMul at p
      simp only at p
      split at p
      · rename_i l q1
        split at p
        · rename_i hc
          obtain ⟨a', vs, e1, h1, h2, h3⟩ := lst_at R (.ref hm) q1
          refine .inl (.inr (.inr ⟨a', j, vs, e1, rfl, h2, hc.1, hc.2.1, by rw [h3.length]; exact hc.2.2, fun q hq => ?_⟩))
          exact po_alloc (o := .lst (List.replicate j.toNat l).flatten) R hq ⟨_, upd_same, (h3.flatRep _).mono (Ex.refl _) ⟨_, rfl⟩⟩ p
        · exact p.elim
      · exact p.elim
    | _ => exact p.elim
  | _ => cases rx <;> exact p.elim
/-! ### is -/
def isNon : D → Bool
  | .non => true
  | _ => false
theorem rep_non {v : V} {d : D} (h : Rep K ca F m v d) : decide (v = V.non) = isNon d := by
  cases h <;> first | rfl | simp [isNon]
def oIs (x y : D) (A : Hs) : RE D := match y with
  | .non => .ok (.bl (isNon x)) A
  | .bl c => match x with
    | .bl b => .ok (.bl (decide (b = c))) A
    | _ => .stuck
  | _ => .stuck
def oIsNot (x y : D) (A : Hs) : RE D := match y with
  | .non => .ok (.bl (!isNon x)) A
  | .bl c => match x with
    | .bl b => .ok (.bl (!decide (b = c))) A
    | _ => .stuck
  | _ => .stuck
theorem os_is : OpS K ca rIsU oIs := fun F m A H x y dx dy W σ Q R rx ry p => by
  cases ry with
  | non => refine .inl ⟨rfl, ?_⟩; rw [rep_non rx]; exact po_ok R (.bl _) p
  | bl c =>
    cases rx with
    | bl b => exact .inr ⟨b, c, rfl, rfl, po_ok R (.bl _) p⟩
    | _ => exact p.elim
  | _ => exact p.elim
theorem os_isnot : OpS K ca rNotU oIsNot := fun F m A H x y dx dy W σ Q R rx ry p => by
  cases ry with
  | non => refine .inl ⟨rfl, ?_⟩; rw [rep_non rx]; exact po_ok R (.bl _) p
  | bl c =>
    cases rx with
    | bl b => exact .inr ⟨b, c, rfl, rfl, po_ok R (.bl _) p⟩
    | _ => exact p.elim
  | _ => exact p.elim
/-! ### subscripts -/
def oIx (x y : D) (A : Hs) : RE D := match y with
  | .int i => match seqL A x with
    | some l => match atI l i with
      | some d => .ok d A
      | none => .stuck
    | none => match seqT x with
      | some l => match atI l i with
        | some d => .ok d A
        | none => .stuck
      | none => match x with
        | .str z => if z.length ≤ sizeLine then match atI z.cps.toList i with
            | some c => .ok (.str ⟨#[c]⟩) A
            | none => .stuck
          else .stuck
        | _ => .stuck
  | _ => .stuck
theorem atI_rep {vs : List V} {l : List D} {i : Int} {d : D} (p : RepL K ca F m vs l) (h : atI l i = some d) : ∃ v, atI vs i = some v ∧ Rep K ca F m v d := by
  unfold atI at h ⊢
  obtain ⟨n, e, g⟩ := Option.bind_eq_some_iff.mp h
  obtain ⟨z, z1, z2⟩ := p.get g
  exact ⟨z, by rw [p.length, e]; exact z1, z2⟩
theorem os_ix : OpS K ca (rIx K) oIx := fun F m A H x y dx dy W σ Q R rx ry p => by
  cases ry with
  | int i =>
    unfold oIx at p
    simp only at p
    split at p
    · rename_i l hl
      split at p
      · rename_i d hd
        obtain ⟨a, vs, e, h1, h2⟩ := seqL_at R rx hl
        obtain ⟨v, h3, h4⟩ := atI_rep h2 hd
        exact .inl ⟨a, vs, i, v, e, rfl, h1, h3, po_ok R h4 p⟩
      · exact p.elim
    · split at p
      · rename_i l hl
        split at p
        · rename_i d hd
          obtain ⟨a, vs, e, h1, h2⟩ := seqT_at R rx hl
          obtain ⟨v, h3, h4⟩ := atI_rep h2 hd
          exact .inr (.inl ⟨a, vs, i, v, e, rfl, h1, h3, po_ok R h4 p⟩)
        · exact p.elim
      · cases rx with
        | str z =>
          simp only at p
          split at p
          · rename_i hz
            split at p
            · rename_i c hc
              exact .inr (.inr ⟨z, i, c, rfl, rfl, hz, hc, po_ok R (.str _) p⟩)
            · exact p.elim
          · exact p.elim
        | _ => exact p.elim
  | _ => exact p.elim
def cutD {α : Type} (xs : List α) (lo hi : Option Int) : List α := (xs.drop (HT.sIx xs.length 0 lo)).take (HT.sIx xs.length xs.length hi - HT.sIx xs.length 0 lo)
theorem cut_rep {vs : List V} {l : List D} {lo hi : Option Int} (h : RepL K ca F m vs l) : RepL K ca F m (cutV vs lo hi) (cutD l lo hi) := by
  unfold cutV cutD
  rw [h.length]
  exact (h.drop _).take _
def oSl (x : D) (lo hi : Option Int) (A : Hs) : RE D := match seqL A x with
  | some l => alloc A (.lst (cutD l lo hi))
  | none => match x with
    | .tup l => .ok (.tup (cutD l lo hi)) A
    | .str z => if z.length ≤ sizeLine then .ok (.str (cutS z lo hi)) A else .stuck
    | _ => .stuck
theorem sls_all : SlS K ca (DL.rSlU K) oSl := fun F m A H x dx lo hi W σ Q R rx p => by
  unfold oSl at p
  split at p
  · rename_i l hl
    obtain ⟨a, vs, e, h1, h2⟩ := seqL_at R rx hl
    exact .inl ⟨a, vs, e, h1, fun q hq => po_alloc (o := .lst (cutD l lo hi)) R hq ⟨_, upd_same, (cut_rep h2).mono (Ex.refl _) ⟨_, rfl⟩⟩ p⟩
  · cases rx with
    | @tup a vs l s rs =>
      refine .inr (.inl ⟨a, vs, rfl, .inl (.inl (R.fh _ _ s)), fun hw => ?_, fun _ q hq => ?_⟩)
      · have e : cutD l lo hi = l := by
          unfold cutD
          rw [← rs.length, hw.1, hw.2]
          simp [rs.length]
        simp only [e] at p
        exact po_ok R (.tup s rs) p
      · obtain ⟨R2, g2⟩ := R.new (u := .tup (cutV vs lo hi)) hq
        exact p _ _ _ _ R2 g2 (.tup upd_same ((cut_rep rs).mono g2.ff g2.mm))
    | str z =>
      simp only at p
      split at p
      · rename_i hz; exact .inr (.inr ⟨z, rfl, hz, po_ok R (.str _) p⟩)
      · exact p.elim
    | _ => exact p.elim
def oRev (x : D) (A : Hs) : RE D := match seqL A x with
  | some l => alloc A (.lst l.reverse)
  | none => .stuck
/-! ### which of two readings -/
theorem Sim.pick {α β : Type} {Rr : Hp → List Addr → β → α → Prop} {t u : L2.St → Hp → (β → Hp → Prop) → Prop} {f g h : Sl → Hs → RE α} (h1 : Sim K ca Rr W t g) (h2 : Sim K ca Rr W u h) (k : ∀ env A, f env A = g env A ∨ f env A = h env A) : Sim K ca Rr W (fun σ H Q => t σ H Q ∨ u σ H Q) f := fun F m A σ H env Q R S p => by
  rcases k env A with q | q
  · rw [q] at p; exact .inl (h1 F m A σ H env Q R S p)
  · rw [q] at p; exact .inr (h2 F m A σ H env Q R S p)
end
end SM

namespace L2
open PySem PySem.Spec PyProof.Rows
/-- x in a list or tuple of data -/
def rInP (K : PySem.W.Frag) (neg : Bool) : R2 := fun x y H Q => ∃ d ds, Dp K H x d ∧ (Dp K H y (.list ds) ∨ Dp K H y (.tuple ds)) ∧ d.plain = true ∧ PyData.plainAll ds = true ∧ d.depth ≤ 60 ∧ Q (.bl (if neg then !(ds.any fun z => PyData.eqv z d) else ds.any fun z => PyData.eqv z d)) H
theorem op_inP {X : Cx} {K : PySem.W.Frag} (hu : X.A.units + 65 < cLine) (eK : X.K = K := by rfl) : OpR X (compareOp .In) (rInP K false) := by
  subst eK
  intro pins s σ H x y v u Q I rx ry h
  obtain ⟨d, ds, hd, he, sd, se, dp, q⟩ := h
  obtain ⟨as, r1⟩ := Dp.reads I d x v hd rx
  rcases he with he | he
  · obtain ⟨bs, r2⟩ := Dp.reads I _ y u he ry
    exact PySem.SeqAt.in_list_data r2 r1 se sd (by omega) ⟨.bl _, H, I, rfl, q⟩
  · obtain ⟨bs, r2⟩ := Dp.reads I _ y u he ry
    exact PySem.SeqAt.in_tuple_data r2 r1 se sd (by omega) ⟨.bl _, H, I, rfl, q⟩
theorem op_notInP {X : Cx} {K : PySem.W.Frag} (hu : X.A.units + 65 < cLine) (eK : X.K = K := by rfl) : OpR X (compareOp .NotIn) (rInP K true) := by
  subst eK
  intro pins s σ H x y v u Q I rx ry h
  obtain ⟨d, ds, hd, he, sd, se, dp, q⟩ := h
  obtain ⟨as, r1⟩ := Dp.reads I d x v hd rx
  rcases he with he | he
  · obtain ⟨bs, r2⟩ := Dp.reads I _ y u he ry
    exact PySem.SeqAt.notIn_list_data r2 r1 se sd (by omega) ⟨.bl _, H, I, rfl, q⟩
  · obtain ⟨bs, r2⟩ := Dp.reads I _ y u he ry
    exact PySem.SeqAt.notIn_tuple_data r2 r1 se sd (by omega) ⟨.bl _, H, I, rfl, q⟩
/-- y in d -/
def rDIn (neg : Bool) : R2 := fun y x H Q => ∃ a o, x = .ref a ∧ DGet H a y o ∧ Q (.bl (if neg then !o.isSome else o.isSome)) H
theorem op_dIn {X : Cx} (hu : X.A.units + 65 < cLine) : OpR X (compareOp .In) (rDIn false) := by
  intro pins s σ H y x iv u Q I ry rx h
  obtain ⟨a, ov, ex, g, q2⟩ := h
  subst ex
  obtain rfl : u = Value.ref a := rx
  exact d_in (by omega) I g ry fun s3 I3 => ⟨.bl ov.isSome, H, I3, rfl, q2⟩
theorem op_dNotIn {X : Cx} (hu : X.A.units + 65 < cLine) : OpR X (compareOp .NotIn) (rDIn true) := by
  intro pins s σ H y x iv u Q I ry rx h
  obtain ⟨a, ov, ex, g, q2⟩ := h
  subst ex
  obtain rfl : u = Value.ref a := rx
  exact d_notIn (by omega) I g ry fun s3 I3 => ⟨.bl (!ov.isSome), H, I3, rfl, q2⟩
def rInAll (K : PySem.W.Frag) (neg : Bool) : R2 := fun x y H Q => rInP K neg x y H Q ∨ (DL.rSign neg x y H Q ∨ rDIn neg x y H Q)
theorem op_inAll {X : Cx} {K : PySem.W.Frag} (hu : X.A.units + 65 < cLine) (e : X.K = K := by rfl) : OpR X (compareOp .In) (rInAll K false) := DL.OpR.or (op_inP hu e) (DL.OpR.or op_in_sign (op_dIn hu))
theorem op_notInAll {X : Cx} {K : PySem.W.Frag} (hu : X.A.units + 65 < cLine) (e : X.K = K := by rfl) : OpR X (compareOp .NotIn) (rInAll K true) := DL.OpR.or (op_notInP hu e) (DL.OpR.or op_notIn_sign (op_dNotIn hu))
theorem op_eqPK {X : Cx} {K : PySem.W.Frag} (hu : X.A.units + 65 < cLine) (e : X.K = K := by rfl) : OpR X (compareOp .Eq) (rEqP K) := by subst e; exact op_eqP (by omega)
theorem op_nePK {X : Cx} {K : PySem.W.Frag} (hu : X.A.units + 65 < cLine) (e : X.K = K := by rfl) : OpR X (compareOp .NotEq) (rNeP K) := by subst e; exact op_neP (by omega)
end L2
namespace SM
open PySem L2
open DL (Ex ExK rLenU rAbs rMax2 rMin2 rInt1 rListOf rTupleOf iSeqU rIsiU InC)
section
variable {K : PySem.W.Frag} {ca : String → Addr} {F F1 F2 H H1 H2 : Hp} {m m1 m2 : List Addr} {A A1 A2 : Hs} {σ : L2.St} {env : Sl} {W : WX} {Q : VK}
variable {ta tb tc te : TE} {a b c : E} {i : Nat} {d : D} {ts : TA} {as : As} {x : V} {dx : D}
/-! ### dicts -/
def keyK : D → Option Key
  | .int i => some (.inl i)
  | .str x => some (.inr x)
  | _ => none
def keysK : List D → Option (List Key)
  | [] => some []
  | d :: r => match keyK d, keysK r with
    | some k, some ks => some (k :: ks)
    | _, _ => none
/-- whether two keys are one -/
def keq : D → D → Bool
  | .int i, .int j => decide (i = j)
  | .str x, .str y => decide (x = y)
  | .tup l, .tup k => keqL l k
  | _, _ => false
where keqL : List D → List D → Bool
  | [], [] => true
  | .int i :: r, .int j :: s => decide (i = j) && keqL r s
  | .str x :: r, .str y :: s => decide (x = y) && keqL r s
  | _, _ => false
def kget : List (D × D) → D → Option D
  | [], _ => none
  | (k, v) :: r, y => if keq k y then some v else kget r y
def khas (l : List (D × D)) (y : D) : Bool := l.any fun kv => keq kv.1 y
def kput (l : List (D × D)) (y v : D) : List (D × D) := if khas l y then l.map (fun kv => if keq kv.1 y then (kv.1, v) else kv) else l ++ [(y, v)]
def kdel (l : List (D × D)) (y : D) : List (D × D) := l.filter fun kv => !keq kv.1 y
/-- y may be a key of a dict of the kind t -/
def keyOk : Bool → D → Bool
  | false, y => (keyK y).isSome
  | true, .tup l => (keysK l).isSome
  | true, _ => false
theorem keyK_kD {y : D} {k : Key} (h : keyK y = some k) : y = kD k := by
  cases y <;> simp [keyK] at h <;> subst h <;> rfl
theorem keysK_kT : ∀ {l : List D} {ks : List Key}, keysK l = some ks → l = ks.map kD
  | [], ks, h => by cases h; rfl
  | d :: r, ks, h => by
    unfold keysK at h
    cases q : keyK d with
    | none => rw [q] at h; cases h
    | some k =>
      cases q2 : keysK r with
      | none => rw [q, q2] at h; cases h
      | some s => rw [q, q2] at h; cases h; rw [List.map_cons, ← keyK_kD q, ← keysK_kT q2]
theorem keq_kD (a b : Key) : keq (kD a) (kD b) = decide (a = b) := by
  cases a <;> cases b <;> simp [kD, keq]
theorem keqL_kT : ∀ (a b : List Key), keq.keqL (a.map kD) (b.map kD) = decide (a = b)
  | [], [] => by simp [keq.keqL]
  | [], y :: s => by cases y <;> simp [keq.keqL]
  | x :: r, [] => by cases x <;> simp [keq.keqL]
  | x :: r, y :: s => by
    have ih := keqL_kT r s
    cases x <;> cases y <;> simp [kD, keq.keqL, ih]
theorem keq_kT (a b : List Key) : keq (kT a) (kT b) = decide (a = b) := by
  unfold kT keq; exact keqL_kT a b
section
variable {κ : Type} [DecidableEq κ] {kd : κ → D}
theorem kget_rep (hk : ∀ a b, keq (kd a) (kd b) = decide (a = b)) {k : κ} : ∀ {kvs : List (κ × V)} {l : List (D × D)}, KvR K ca F m kd kvs l → (∀ d, kget l (kd k) = some d → ∃ v, valV kvs k = some v ∧ Rep K ca F m v d) ∧ (kget l (kd k) = none → valV kvs k = none)
  | _, _, .nil => ⟨fun d h => by simp [kget] at h, fun _ => rfl⟩
  | _, _, .cons (k := k') (v := v') h r => by
    have ih := kget_rep hk (k := k) r
    unfold kget valV
    by_cases q : k' = k
    · subst q
      simp only [hk, decide_true, if_true, List.find?_cons]
      exact ⟨fun d e => by cases e; exact ⟨v', by simp, h⟩, fun e => by cases e⟩
    · rw [hk, decide_eq_false q]
      simp only [Bool.false_eq_true, if_false, List.find?_cons, decide_eq_false q]
      exact ih
theorem khas_rep (hk : ∀ a b, keq (kd a) (kd b) = decide (a = b)) {k : κ} : ∀ {kvs : List (κ × V)} {l : List (D × D)}, KvR K ca F m kd kvs l → khas l (kd k) = kvs.any fun kv => decide (kv.1 = k)
  | _, _, .nil => rfl
  | _, _, .cons h r => by
    have ih := khas_rep hk (k := k) r
    unfold khas at ih ⊢
    rw [List.any_cons, List.any_cons, ih, hk]
theorem KvR.snoc {k : κ} {v : V} (hv : Rep K ca F m v d) : ∀ {kvs : List (κ × V)} {l : List (D × D)}, KvR K ca F m kd kvs l → KvR K ca F m kd (kvs ++ [(k, v)]) (l ++ [(kd k, d)])
  | _, _, .nil => .cons hv .nil
  | _, _, .cons h r => .cons h (KvR.snoc hv r)
theorem KvR.remap (hk : ∀ a b, keq (kd a) (kd b) = decide (a = b)) {k : κ} {v : V} (hv : Rep K ca F m v d) : ∀ {kvs : List (κ × V)} {l : List (D × D)}, KvR K ca F m kd kvs l → KvR K ca F m kd (kvs.map fun kv => if kv.1 = k then (kv.1, v) else kv) (l.map fun kv => if keq kv.1 (kd k) then (kv.1, d) else kv)
  | _, _, .nil => .nil
  | _, _, .cons (k := k') h r => by
    rw [List.map_cons, List.map_cons]
    by_cases q : k' = k
    · simp only [q, hk, decide_true, if_true]; exact .cons hv (KvR.remap hk hv r)
    · simp only [q, hk, decide_false, Bool.false_eq_true, if_false]; exact .cons h (KvR.remap hk hv r)
theorem kput_rep (hk : ∀ a b, keq (kd a) (kd b) = decide (a = b)) {k : κ} {v : V} (hv : Rep K ca F m v d) {kvs : List (κ × V)} {l : List (D × D)} (h : KvR K ca F m kd kvs l) : KvR K ca F m kd (putK kvs k v) (kput l (kd k) d) := by
  unfold putK kput
  rw [khas_rep hk h]
  split
  · exact KvR.remap hk hv h
  · exact KvR.snoc hv h
theorem kdel_rep (hk : ∀ a b, keq (kd a) (kd b) = decide (a = b)) {k : κ} : ∀ {kvs : List (κ × V)} {l : List (D × D)}, KvR K ca F m kd kvs l → KvR K ca F m kd (dropK kvs k) (kdel l (kd k))
  | _, _, .nil => .nil
  | _, _, .cons (k := k') h r => by
    have ih := kdel_rep hk (k := k) r
    unfold dropK kdel at ih ⊢
    rw [List.filter_cons, List.filter_cons]
    by_cases q : k' = k
    · simp only [q, hk, decide_true, Bool.not_true, Bool.false_eq_true, if_false, ne_eq, not_true_eq_false, decide_false]; exact ih
    · simp only [q, hk, decide_false, Bool.not_false, if_true, ne_eq, not_false_eq_true, decide_true]; exact .cons h ih
end
/-- the dict at hand: its kind, its pairs -/
def dicAt (A : Hs) : D → Option (Bool × List (D × D))
  | .ref i => match A[i]? with
    | some (.dic t _ l) => some (t, l)
    | _ => none
  | _ => none
theorem rdK {lk : Bool} {a : Addr} {u : HO} (h : At H a lk u) : L2.Rd H a u := by
  cases lk with
  | false => exact .inl h
  | true => exact .inr h
theorem tup_key {y : V} {l : List D} {ks : List Key} (R : Rl K ca F m A H) (r : Rep K ca F m y (.tup l)) (h : keysK l = some ks) : ∃ b, y = .ref b ∧ H b = some (.tup (ks.map kV)) := by
  cases r with
  | tup s rs =>
    refine ⟨_, rfl, ?_⟩
    have e := keysK_kT h
    subst e
    have : ∀ {vs : List V} {ks : List Key}, RepL K ca F m vs (ks.map kD) → vs = ks.map kV := by
      intro vs ks
      induction ks generalizing vs with
      | nil => intro r; cases r; rfl
      | cons k ks ih =>
        intro r
        cases r with
        | cons q t =>
          rw [List.map_cons, ih t]
          cases k with
          | inl i => cases q; rfl
          | inr x => cases q; rfl
    rw [← this rs]
    exact R.fh _ _ s
/-- what the dict holds at a key -/
theorem dic_get {x y : V} {dy : D} {t : Bool} {l : List (D × D)} (R : Rl K ca F m A H) (rx : Rep K ca F m x dx) (ry : Rep K ca F m y dy) (h : dicAt A dx = some (t, l)) (hk : keyOk t dy = true) : ∃ a o, x = .ref a ∧ DGet H a y o ∧ L2.IsD H a ∧ (∀ d, kget l dy = some d → ∃ v, o = some v ∧ Rep K ca F m v d) ∧ (kget l dy = none → o = none) := by
  cases dx with
  | ref i =>
    unfold dicAt at h
    cases q : A[i]? with
    | none => simp [q] at h
    | some o =>
      cases o with
      | dic t' lk l' =>
        simp [q] at h
        obtain ⟨rfl, rfl⟩ := h
        obtain ⟨a, e, ha, r⟩ := R.at q rx
        cases t' with
        | false =>
          obtain ⟨kvs, h1, h2⟩ := r
          cases z : keyK dy with
          | none => simp [keyOk, z] at hk
          | some k =>
            have e2 := keyK_kD z
            subst e2
            obtain ⟨g1, g2⟩ := kget_rep keq_kD (k := k) h2
            refine ⟨a, valV kvs k, e, .inl ⟨kvs, k, rdK h1, ?_, rfl⟩, .inl ⟨kvs, rdK h1⟩, g1, g2⟩
            cases k with
            | inl i => cases ry; rfl
            | inr x => cases ry; rfl
        | true =>
          obtain ⟨kvs, h1, h2⟩ := r
          cases dy with
          | tup dl =>
              cases z : keysK dl with
            | none => simp [keyOk, z] at hk
            | some ks =>
              obtain ⟨b, e3, h3⟩ := tup_key R ry z
              have e2 := keysK_kT z
              subst e2
              obtain ⟨g1, g2⟩ := kget_rep keq_kT (k := ks) h2
              exact ⟨a, valV kvs ks, e, .inr ⟨kvs, ks, b, rdK h1, e3, h3, rfl⟩, .inr ⟨kvs, rdK h1⟩, g1, g2⟩
          | _ => simp [keyOk] at hk
      | lst _ => simp [q] at h
      | obj _ _ => simp [q] at h
  | _ => simp [dicAt] at h
/-- d[y] -/
def oDGet (x y : D) (A : Hs) : RE D := match dicAt A x with
  | some (t, l) => if keyOk t y then match kget l y with
      | some d => .ok d A
      | none => .stuck
    else .stuck
  | none => .stuck
def rDGet : R2 := fun x y H Q => ∃ a v, x = .ref a ∧ DGet H a y (some v) ∧ Q v H
theorem os_dget : OpS K ca rDGet oDGet := fun F m A H x y dx dy W σ Q R rx ry p => by
  unfold oDGet at p
  split at p
  · rename_i t l hd
    split at p
    · rename_i hk
      split at p
      · rename_i d hg
        obtain ⟨a, o, e, h1, _, h2, h3⟩ := dic_get R rx ry hd hk
        obtain ⟨v, e2, rv⟩ := h2 d hg
        subst e2
        exact ⟨a, v, e, h1, po_ok R rv p⟩
      · exact p.elim
    · exact p.elim
  · exact p.elim
theorem pe_dgetO {X : Cx} {o i : Expr} {pos : Pos} {td ty : TE} (hu : X.A.units + 65 < cLine) (ho : PE X o td) (hi : PE X i ty) (hs : NoSl i) : PE X (.Subscript o i pos) (tOp rDGet td ty) := pe_dget (by omega) ho hi hs
/-- y in c -/
def inData (A : Hs) (x c : D) : Option Bool := match pyA A 40 x, pyA A 40 c with
  | some p, some (.list ps) => some (ps.any fun z => PyData.eqv z p)
  | some p, some (.tuple ps) => some (ps.any fun z => PyData.eqv z p)
  | _, _ => none
def inStr (x : D) (w : Str) : Option Bool := match x with
  | .str z => match z.cps.toList with
    | [k] => some (decide (k ∈ w.cps.toList))
    | _ => none
  | _ => none
def inDic (t : Bool) (l : List (D × D)) (x : D) : Option Bool := if keyOk t x then some (kget l x).isSome else none
def inA (A : Hs) (x c : D) : Option Bool := match dicAt A c with
  | some (t, l) => inDic t l x
  | none => match c with
    | .str w => inStr x w
    | _ => inData A x c
def oIn : D → D → Hs → RE D := oB inA
def oNotIn : D → D → Hs → RE D := oB fun A x y => (inA A x y).map (!·)
theorem in_data {neg b : Bool} {x y : V} {dx dy : D} (R : Rl K ca F m A H) (rx : Rep K ca F m x dx) (ry : Rep K ca F m y dy) (h : inData A dx dy = some b) (q : Q (.bl (if neg then !b else b)) H) : rInAll K neg x y H Q := by
  unfold inData at h
  cases q1 : pyA A 40 dx with
  | none => simp [q1] at h
  | some p1 =>
    cases q2 : pyA A 40 dy with
    | none => simp [q1, q2] at h
    | some p2 =>
      obtain ⟨a1, a2, a3⟩ := dp_of R rx q1
      obtain ⟨b1, b2, b3⟩ := dp_of R ry q2
      cases p2 with
      | list ps =>
        simp only [q1, q2, Option.some.injEq] at h
        subst h
        exact .inl ⟨p1, ps, a1, .inl b1, a2, b2, by omega, q⟩
      | tuple ps =>
        simp only [q1, q2, Option.some.injEq] at h
        subst h
        exact .inl ⟨p1, ps, a1, .inr b1, a2, b2, by omega, q⟩
      | _ => simp [q1, q2] at h
theorem in_core {neg b : Bool} {x y : V} {dx dy : D} (R : Rl K ca F m A H) (rx : Rep K ca F m x dx) (ry : Rep K ca F m y dy) (h : inA A dx dy = some b) (q : Q (.bl (if neg then !b else b)) H) : rInAll K neg x y H Q := by
  unfold inA at h
  cases hd : dicAt A dy with
  | some tl =>
    obtain ⟨t, l⟩ := tl
    simp only [hd, inDic] at h
    split at h
    · rename_i hk
      obtain ⟨a, o, e, h1, _, h2, h3⟩ := dic_get R ry rx hd hk
      refine .inr (.inr ⟨a, o, e, h1, ?_⟩)
      have : o.isSome = b := by
        cases h
        cases z : kget l dx with
        | none => rw [h3 z]; rfl
        | some d => obtain ⟨v, e2, _⟩ := h2 d z; rw [e2]; rfl
      rw [this]; exact q
    · cases h
  | none =>
    simp only [hd] at h
    cases ry with
    | str w =>
      simp only [inStr] at h
      cases rx with
      | str z =>
        simp only at h
        split at h
        · rename_i k hz
          cases h
          have : z = ⟨#[k]⟩ := by
            cases z with
            | mk cps => congr; exact Array.toList_inj.mp (by simpa using hz)
          subst this
          exact .inr (.inl ⟨k, w, rfl, rfl, q⟩)
        · cases h
      | _ => cases h
    | non => exact in_data R rx .non h q
    | bl b => exact in_data R rx (.bl b) h q
    | int b => exact in_data R rx (.int b) h q
    | ty b => exact in_data R rx (.ty b) h q
    | tup s r => exact in_data R rx (.tup s r) h q
    | wt s r => exact in_data R rx (.wt s r) h q
    | scr s r => exact in_data R rx (.scr s r) h q
    | ref s => exact in_data R rx (.ref s) h q
    | nm s => exact in_data R rx (.nm s) h q
    | exc s => exact in_data R rx (.exc s) h q
theorem os_in : OpS K ca (rInAll K false) oIn := fun F m A H x y dx dy W σ Q R rx ry p => by
  unfold oIn oB at p
  cases q : inA A dx dy with
  | none => rw [q] at p; exact p.elim
  | some b => rw [q] at p; exact in_core R rx ry q (po_ok R (.bl _) p)
theorem os_notin : OpS K ca (rInAll K true) oNotIn := fun F m A H x y dx dy W σ Q R rx ry p => by
  unfold oNotIn oB at p
  cases q : inA A dx dy with
  | none => simp only [q] at p; exact p.elim
  | some b => simp only [q, Option.map] at p; exact in_core R rx ry q (po_ok R (.bl _) p)
/-! ### stores -/
/-- xs[i] = v, d[k] = v -/
def setIt (A : Hs) (x y v : D) : Option Hs := match x with
  | .ref i => match A[i]? with
    | some (.lst l) => match y with
      | .int k => match ixN l.length k with
        | some n => some (A.set i (.lst (l.set n v)))
        | none => none
      | _ => none
    | some (.dic t false l) => if keyOk t y && decide (l.length < sizeLine) then some (A.set i (.dic t false (kput l y v))) else none
    | _ => none
  | _ => none
/-- o[i] = e: first e, then o, then i -/
def ofH (env : Sl) : Option Hs → RS
  | some A => .nx env A
  | none => .stuck
def sPut (o i a : E) : S := fun env A => ofE env (a env A) fun v A1 => ofE env (o env A1) fun x A2 => ofE env (i env A2) fun y A3 => ofH env (setIt A3 x y v)
theorem set_lst {x y v : V} {dy dv : D} {i : Nat} {l : List D} (R : Rl K ca F m A H) (rx : Rep K ca F m x (.ref i)) (ry : Rep K ca F m y dy) (rv : Rep K ca F m v dv) (hA : A[i]? = some (.lst l)) (h : setIt A (.ref i) dy dv = some A2) {Dn : Ends} {f : Hp → Prop}
    (k : ∀ H2, Rl K ca F m A2 H2 → Stp F m H F m H2 → f H2) : rSetL x y v H f := by
  unfold setIt at h
  simp only [hA] at h
  cases ry with
  | int j =>
    simp only at h
    cases q : ixN l.length j with
    | none => rw [q] at h; cases h
    | some n =>
      rw [q] at h; cases h
      obtain ⟨a, vs, e, h1, h2, h3⟩ := lst_at R rx hA
      obtain ⟨R2, g2⟩ := lst_put R h1 h2 (h3.set rv n)
      exact ⟨a, vs, j, n, e, rfl, h2, by rw [h3.length]; exact q, k _ R2 g2⟩
  | _ => cases h
theorem set_dic {x y v : V} {dy dv : D} {i : Nat} {t : Bool} {l : List (D × D)} (R : Rl K ca F m A H) (rx : Rep K ca F m x (.ref i)) (ry : Rep K ca F m y dy) (rv : Rep K ca F m v dv) (hA : A[i]? = some (.dic t false l)) (h : setIt A (.ref i) dy dv = some A2) :
    ∃ a H2, x = .ref a ∧ DPut H a y v H2 ∧ Rl K ca F m A2 H2 ∧ Stp F m H F m H2 := by
  unfold setIt at h
  simp only [hA] at h
  split at h
  · rename_i hk
    cases h
    rw [Bool.and_eq_true, decide_eq_true_eq] at hk
    obtain ⟨a, e, ha, r⟩ := R.at hA rx
    cases t with
    | false =>
      obtain ⟨kvs, h1, h2⟩ := r
      cases z : keyK dy with
      | none => simp [keyOk, z] at hk
      | some kk =>
        have e2 := keyK_kD z
        subst e2
        have e3 : y = kV kk := by
          cases kk with
          | inl i => cases ry; rfl
          | inr x => cases ry; rfl
        have h1' : H a = some (.dK kvs) := h1
        obtain ⟨R2, g2⟩ := R.put (u := .dK (putK kvs kk v)) (o' := .dic false false (kput l (kD kk) dv)) ha (fun od w z => by rw [h1'] at z; cases z) ⟨_, upd_same, kput_rep keq_kD rv h2⟩
        exact ⟨a, _, e, .inl ⟨kvs, kk, h1, e3, by rw [h2.length]; exact hk.2, rfl⟩, R2, g2⟩
    | true =>
      obtain ⟨kvs, h1, h2⟩ := r
      cases dy with
      | tup dl =>
          cases z : keysK dl with
        | none => simp [keyOk, z] at hk
        | some ks =>
          obtain ⟨b, e3, h3⟩ := tup_key R ry z
          have e2 := keysK_kT z
          subst e2
          have h1' : H a = some (.dT kvs) := h1
          obtain ⟨R2, g2⟩ := R.put (u := .dT (putK kvs ks v)) (o' := .dic true false (kput l (kT ks) dv)) ha (fun od w z => by rw [h1'] at z; cases z) ⟨_, upd_same, kput_rep keq_kT rv h2⟩
          exact ⟨a, _, e, .inr ⟨kvs, ks, b, h1, e3, h3, by rw [h2.length]; exact hk.2, rfl⟩, R2, g2⟩
      | _ => simp [keyOk] at hk
  · cases h
end
end SM

namespace SM
open PySem L2
open DL (Ex ExK rLenU rAbs rMax2 rMin2 rInt1 rListOf rTupleOf iSeqU rIsiU InC)
section
variable {K : PySem.W.Frag} {ca : String → Addr} {F F1 F2 H H1 H2 : Hp} {m m1 m2 : List Addr} {A A1 A2 : Hs} {σ : L2.St} {env : Sl} {W : WX} {Q : VK}
variable {ta tb tc te to ti : TE} {a b c o : E} {i : Nat} {d : D} {ts : TA} {as : As} {x : V} {dx : D} {t u : TS} {f g h : S}
/-! ### o[i] = e -/
theorem SimS.pick (h1 : SimS K ca W t g) (h2 : SimS K ca W u h) (k : ∀ env A, f env A = g env A ∨ f env A = h env A) : SimS K ca W (fun D σ H => t D σ H ∨ u D σ H) f := fun F m A σ H env Dn R S p => by
  rcases k env A with q | q
  · rw [q] at p; exact .inl (h1 F m A σ H env Dn R S p)
  · rw [q] at p; exact .inr (h2 F m A σ H env Dn R S p)
def isLst (A : Hs) : D → Bool
  | .ref i => match A[i]? with
    | some (.lst _) => true
    | _ => false
  | _ => false
def sPut1 (w : Bool) (o i a : E) : S := fun env A => ofE env (a env A) fun v A1 => ofE env (o env A1) fun x A2 => ofE env (i env A2) fun y A3 => if isLst A3 x = w then ofH env (setIt A3 x y v) else .stuck
theorem put_pick {o i a : E} (env : Sl) (A : Hs) : sPut o i a env A = sPut1 true o i a env A ∨ sPut o i a env A = sPut1 false o i a env A := by
  unfold sPut sPut1
  cases a env A with
  | stuck => exact .inl rfl
  | exc _ _ => exact .inl rfl
  | ok v A1 =>
    simp only [ofE]
    cases o env A1 with
    | stuck => exact .inl rfl
    | exc _ _ => exact .inl rfl
    | ok x A2 =>
      simp only [ofE]
      cases i env A2 with
      | stuck => exact .inl rfl
      | exc _ _ => exact .inl rfl
      | ok y A3 =>
        simp only [ofE]
        cases q : isLst A3 x with
        | true => exact .inl (by simp)
        | false => exact .inr (by simp)
theorem isLst_at {A : Hs} {x : D} {w : Bool} (h : isLst A x = true) : ∃ i l, x = .ref i ∧ A[i]? = some (.lst l) := by
  cases x with
  | ref i =>
    unfold isLst at h
    cases q : A[i]? with
    | none => simp [q] at h
    | some o =>
      cases o with
      | lst l => exact ⟨i, l, rfl, q⟩
      | dic _ _ _ => simp [q] at h
      | obj _ _ => simp [q] at h
  | _ => cases h
theorem setIt_dic {A A2 : Hs} {x y v : D} (h : setIt A x y v = some A2) (n : isLst A x = false) : ∃ i t l, x = .ref i ∧ A[i]? = some (.dic t false l) := by
  unfold setIt at h
  cases x with
  | ref i =>
    unfold isLst at n
    cases q : A[i]? with
    | none => simp [q] at h
    | some o =>
      cases o with
      | lst l => simp [q] at n
      | dic t lk l =>
        cases lk with
        | false => exact ⟨i, t, l, rfl, q⟩
        | true => simp [q] at h
      | obj _ _ => simp [q] at h
  | _ => simp at h
theorem ss_putL (ho : SimE K ca W to o) (hi : SimE K ca W ti b) (ha : SimE K ca W ta a) : SimS K ca W (tAsg ta (gSub to ti rSetL)) (sPut1 true o b a) := fun F m A σ H env Dn R S p =>
  ofE_bind ha R S p fun F1 m1 A1 H1 v dv R1 g1 S1 rv p1 => ofE_bind ho R1 S1 p1 fun F2 m2 A2 H2 x dx R2 g2 S2 rx p2 => ofE_bind hi R2 S2 p2 fun F3 m3 A3 H3 y dy R3 g3 S3 ry p3 => by
    split at p3
    · rename_i hl
      cases hs : setIt A3 dx dy dv with
      | none => rw [hs] at p3; exact p3.elim
      | some A4 =>
        rw [hs] at p3
        obtain ⟨j, l, rfl, hA⟩ := isLst_at (w := true) hl
        exact set_lst (Dn := Dn) R3 (rx.mono g3.ff g3.mm) ry (rv.mono (g2.trans g3).ff (g2.trans g3).mm) hA hs fun H4 R4 g4 => p3 F3 m3 σ H4 R4 g4 (S3.stp g4)
    · exact p3.elim
theorem ss_putD (ho : SimE K ca W to o) (hi : SimE K ca W ti b) (ha : SimE K ca W ta a) : SimS K ca W (sDPut to ti ta) (sPut1 false o b a) := fun F m A σ H env Dn R S p =>
  ofE_bind ha R S p fun F1 m1 A1 H1 v dv R1 g1 S1 rv p1 => ofE_bind ho R1 S1 p1 fun F2 m2 A2 H2 x dx R2 g2 S2 rx p2 => ofE_bind hi R2 S2 p2 fun F3 m3 A3 H3 y dy R3 g3 S3 ry p3 => by
    split at p3
    · rename_i hl
      cases hs : setIt A3 dx dy dv with
      | none => rw [hs] at p3; exact p3.elim
      | some A4 =>
        rw [hs] at p3
        obtain ⟨j, t, l, rfl, hA⟩ := setIt_dic hs hl
        obtain ⟨a', H4, e, h1, R4, g4⟩ := set_dic R3 (rx.mono g3.ff g3.mm) ry (rv.mono (g2.trans g3).ff (g2.trans g3).mm) hA hs
        exact ⟨a', H4, e, h1, p3 F3 m3 σ H4 R4 g4 (S3.stp g4)⟩
    · exact p3.elim
theorem ss_put (ho : SimE K ca W to o) (hi : SimE K ca W ti b) (ha : SimE K ca W ta a) : SimS K ca W (fun D σ H => tAsg ta (gSub to ti rSetL) D σ H ∨ sDPut to ti ta D σ H) (sPut o b a) := SimS.pick (ss_putL ho hi ha) (ss_putD ho hi ha) put_pick
/-! ### built-ins -/
def c1 (f : D → Hs → RE D) : List D → Hs → RE D := fun ds A => match ds with
  | [d] => f d A
  | _ => .stuck
def c2 (f : D → D → Hs → RE D) : List D → Hs → RE D := fun ds A => match ds with
  | [d, e] => f d e A
  | _ => .stuck
theorem cs_1 {r : List V → Hp → VK → Prop} {f : D → Hs → RE D} (h : ∀ F m A H x dx W σ Q, Rl K ca F m A H → Rep K ca F m x dx → Po K ca (Rep K ca) F m H W σ Q (f dx A) → r [x] H Q) : CbS K ca r (c1 f) := fun F m A H xs ds W σ Q R rs p => by
  match ds, xs, rs, p with
  | [d], _, .cons r1 .nil, p => exact h F m A H _ d W σ Q R r1 p
  | [], _, _, p => exact p.elim
  | _ :: _ :: _, _, _, p => exact p.elim
theorem cs_2 {r : List V → Hp → VK → Prop} {f : D → D → Hs → RE D} (h : ∀ F m A H x y dx dy W σ Q, Rl K ca F m A H → Rep K ca F m x dx → Rep K ca F m y dy → Po K ca (Rep K ca) F m H W σ Q (f dx dy A) → r [x, y] H Q) : CbS K ca r (c2 f) := fun F m A H xs ds W σ Q R rs p => by
  match ds, xs, rs, p with
  | [d, e], _, .cons r1 (.cons r2 .nil), p => exact h F m A H _ _ d e W σ Q R r1 r2 p
  | [], _, _, p => exact p.elim
  | [_], _, _, p => exact p.elim
  | _ :: _ :: _ :: _, _, _, p => exact p.elim
def lenA (A : Hs) (x : D) : Option Nat := match seqL A x with
  | some l => some l.length
  | none => match seqT x with
    | some l => some l.length
    | none => match x with
      | .str z => if z.length ≤ sizeLine then some z.length else none
      | .ref i => match A[i]? with
        | some (.dic false false l) => some l.length
        | _ => none
      | _ => none
def oLen (x : D) (A : Hs) : RE D := match lenA A x with
  | some n => .ok (.int (n : Int)) A
  | none => .stuck
theorem cs_len : CbS K ca (rLenU K) (c1 oLen) := cs_1 fun F m A H x dx W σ Q R rx p => by
  unfold oLen at p
  cases q : lenA A dx with
  | none => rw [q] at p; exact p.elim
  | some n =>
    rw [q] at p
    have hq := po_ok R (Rep.int _) p
    unfold lenA at q
    split at q
    · rename_i l hl
      cases q
      obtain ⟨a, vs, e, h1, h2⟩ := seqL_at R rx hl
      subst e
      exact .inl ⟨_, l.length, rfl, .inl ⟨vs, h1, h2.length.symm⟩, hq⟩
    · split at q
      · rename_i l hl
        cases q
        obtain ⟨a, vs, e, h1, h2⟩ := seqT_at R rx hl
        subst e
        exact .inl ⟨_, l.length, rfl, .inr ⟨vs, h1, h2.length.symm⟩, hq⟩
      · cases rx with
        | str z =>
          simp only at q
          split at q
          · rename_i hz; cases q; exact .inl ⟨_, _, rfl, ⟨hz, rfl⟩, hq⟩
          · cases q
        | ref hm =>
          simp only at q
          split at q
          · rename_i l hA
            cases q
            obtain ⟨a, e, ha, kvs, h1, h2⟩ := R.at hA (.ref hm)
            refine .inr ⟨a, kvs, by rw [e], h1, ?_⟩
            rw [h2.length]; exact hq
          · cases q
        | _ => cases q
def boolsOf : List D → Option (List Bool)
  | [] => some []
  | .bl b :: r => (boolsOf r).map (b :: ·)
  | _ :: _ => none
def intsOf : List D → Option (List Int)
  | [] => some []
  | .int b :: r => (intsOf r).map (b :: ·)
  | _ :: _ => none
theorem boolsOf_eq : ∀ {l : List D} {bs : List Bool}, boolsOf l = some bs → l = bs.map D.bl
  | [], _, h => by cases h; rfl
  | d :: r, bs, h => by
    cases d with
    | bl b =>
      unfold boolsOf at h
      cases q : boolsOf r with
      | none => rw [q] at h; cases h
      | some s => rw [q] at h; cases h; rw [List.map_cons, ← boolsOf_eq q]
    | _ => cases h
theorem z05 : ∀ bs : List Bool, boolsOf (bs.map D.bl) = some bs
  | [] => rfl
  | b :: r => by rw [List.map_cons]; unfold boolsOf; rw [z05 r]; rfl
theorem z09 : ∀ bs : List Int, intsOf (bs.map D.int) = some bs
  | [] => rfl
  | b :: r => by rw [List.map_cons]; unfold intsOf; rw [z09 r]; rfl
def oAll (x : D) (A : Hs) : RE D := match (seqL A x).bind boolsOf with
  | some bs => .ok (.bl (bs.all id)) A
  | none => .stuck
def oSum (x : D) (A : Hs) : RE D := match (seqL A x).bind intsOf with
  | some ns => .ok (.int ns.sum) A
  | none => .stuck
theorem cs_all : CbS K ca (L2.rAll K) (c1 oAll) := cs_1 fun F m A H x dx W σ Q R rx p => by
  unfold oAll at p
  split at p
  · rename_i bs hb
    obtain ⟨l, h1, h2⟩ := Option.bind_eq_some_iff.mp hb
    obtain ⟨a, vs, e, h3, h4⟩ := seqL_at R rx h1
    have e2 := boolsOf_eq h2
    subst e2
    have e3 := h4.bools
    subst e3 e
    exact ⟨a, bs, rfl, h3, po_ok R (.bl _) p⟩
  · exact p.elim
def oMax2 := oII fun i j => some (.int (if j > i then j else i))
def oMin2 := oII fun i j => some (.int (if j < i then j else i))
theorem cs_max2 : CbS K ca rMax2 (c2 oMax2) := cs_2 fun F m A H x y dx dy W σ Q R rx ry p => by
  cases rx with
  | int i =>
    cases ry with
    | int j => exact ⟨i, j, rfl, po_ok R (.int _) p⟩
    | _ => exact p.elim
  | _ => exact p.elim
theorem cs_min2 : CbS K ca rMin2 (c2 oMin2) := cs_2 fun F m A H x y dx dy W σ Q R rx ry p => by
  cases rx with
  | int i =>
    cases ry with
    | int j => exact ⟨i, j, rfl, po_ok R (.int _) p⟩
    | _ => exact p.elim
  | _ => exact p.elim
def oInt (x : D) (A : Hs) : RE D := match x with
  | .int i => .ok (.int i) A
  | .bl b => .ok (.int (if b then 1 else 0)) A
  | _ => .stuck
theorem cs_int : CbS K ca rInt1 (c1 oInt) := cs_1 fun F m A H x dx W σ Q R rx p => by
  cases rx with
  | int i => exact .inl ⟨i, rfl, po_ok R (.int _) p⟩
  | bl b => exact .inr ⟨b, rfl, po_ok R (.int _) p⟩
  | _ => exact p.elim
def oList (x : D) (A : Hs) : RE D := match seqL A x with
  | some l => alloc A (.lst l)
  | none => match seqT x with
    | some l => alloc A (.lst l)
    | none => .stuck
def oTuple (x : D) (A : Hs) : RE D := match seqL A x with
  | some l => .ok (.tup l) A
  | none => match x with
    | .tup l => .ok (.tup l) A
    | _ => .stuck
theorem cs_tuple : CbS K ca (rTupleOf K) (c1 oTuple) := cs_1 fun F m A H x dx W σ Q R rx p => by
  unfold oTuple at p
  split at p
  · rename_i l hl
    obtain ⟨a, vs, e, h3, h4⟩ := seqL_at R rx hl
    subst e
    refine ⟨a, vs, rfl, .inl ⟨h3, fun q hq => ?_⟩⟩
    obtain ⟨R2, g2⟩ := R.new (u := .tup vs) hq
    exact p _ _ _ _ R2 g2 (.tup upd_same (h4.mono g2.ff g2.mm))
  · cases rx with
    | tup s rs => exact ⟨_, _, rfl, .inr ⟨.inl (.inl (R.fh _ _ s)), po_ok R (.tup s rs) p⟩⟩
    | _ => exact p.elim
/-! ### isinstance -/
/-- the class that a thing is of; os, xs: own classes, own exceptions at hand -/
def kdOf (os xs : List String) (A : Hs) : D → Option String
  | .non => some "NoneType"
  | .bl _ => some "bool"
  | .int _ => some "int"
  | .str _ => some "str"
  | .tup _ => some "tuple"
  | .scr _ => none
  | .exc C => if C ∈ xs then some C else none
  | .ref i => match A[i]? with
    | some (.lst _) => some "list"
    | some (.dic t lk _) => if t && lk then none else some "dict"
    | some (.obj C _) => if C ∈ os then some C else none
    | none => none
  | _ => none
def btn (n : String) : Bool := n == "NoneType" || n == "bool" || n == "int" || n == "str" || n == "tuple" || n == "list" || n == "dict" || n == "ValueError"
def clOf : D → Option String
  | .ty n => if btn n then some n else none
  | .nm C => if btn C then none else some C
  | _ => none
/-- a name's class object -/
def vOf (ca : String → Addr) (n : String) : Value := if btn n then .type n else .ref (ca n)
def subB (n c : String) : Bool := n == c || n == "bool" && c == "int"
/-- is the class n one of c: by the built-in ones, else by a table -/
def isiOf (tb : List (String × String × Bool)) (n c : String) : Option Bool := if btn n && btn c && n != "ValueError" then some (subB n c) else (tb.find? fun e => e.1 == n && e.2.1 == c).map (·.2.2)
/-- one of some classes -/
def isiAny (tb : List (String × String × Bool)) (n : String) : List D → Option Bool
  | [] => some false
  | c :: r => match clOf c with
    | some k => match isiOf tb n k with
      | some true => some true
      | some false => isiAny tb n r
      | none => none
    | none => none
def isiAll : List D → Bool
  | [] => true
  | c :: r => (clOf c).isSome && isiAll r
def isiD (os xs : List String) (tb : List (String × String × Bool)) (A : Hs) (x c : D) : Option Bool := match kdOf os xs A x with
  | none => none
  | some n => match c with
    | .tup l => if isiAll l then isiAny tb n l else none
    | c => match clOf c with
      | some k => isiOf tb n k
      | none => none
def oIsi (os xs : List String) (tb : List (String × String × Bool)) (x c : D) (A : Hs) : RE D := match isiD os xs tb A x c with
  | some b => .ok (.bl b) A
  | none => .stuck
inductive TbOk (K : PySem.W.Frag) (ca : String → Addr) : List (String × String × Bool) → Prop
  | nil : TbOk K ca []
  | cons {n c : String} {b : Bool} {r : List (String × String × Bool)} : PySem.W.kitOne K (vOf ca n) (vOf ca c) = some b → TbOk K ca r → TbOk K ca ((n, c, b) :: r)
theorem TbOk.of {tb : List (String × String × Bool)} (h : TbOk K ca tb) {n c : String} {b : Bool} (q : (tb.find? fun e => e.1 == n && e.2.1 == c).map (·.2.2) = some b) : PySem.W.kitOne K (vOf ca n) (vOf ca c) = some b := by
  induction h with
  | nil => cases q
  | cons h1 h2 ih =>
    rename_i n' c' b' r
    rw [List.find?_cons] at q
    cases z : (n' == n && c' == c) with
    | true =>
      simp only [z] at q
      cases q
      rw [Bool.and_eq_true] at z
      rw [← eq_of_beq z.1, ← eq_of_beq z.2]; exact h1
    | false => simp only [z] at q; exact ih q
def btns : List String := ["NoneType", "bool", "int", "str", "tuple", "list", "dict", "ValueError"]
theorem btn_mem {n : String} (h : btn n = true) : n ∈ btns := by
  simp only [btn, Bool.or_eq_true, beq_iff_eq] at h
  simp only [btns, List.mem_cons, List.mem_nil_iff, or_false]
  rcases h with ((((((h | h) | h) | h) | h) | h) | h) | h <;> simp [h]
theorem isi_all : ∀ n ∈ btns, ∀ c ∈ btns, (n != "ValueError") = true → kitB n c = some (subB n c) := by decide +kernel
theorem isi_sub {n c : String} (h1 : btn n = true) (h2 : btn c = true) (h3 : (n != "ValueError") = true) : kitB n c = some (subB n c) := isi_all n (btn_mem h1) c (btn_mem h2) h3
theorem isi_of {tb : List (String × String × Bool)} (h : TbOk K ca tb) {n c : String} {b : Bool} (q : isiOf tb n c = some b) : PySem.W.kitOne K (vOf ca n) (vOf ca c) = some b := by
  unfold isiOf at q
  split at q
  · rename_i z
    rw [Bool.and_eq_true, Bool.and_eq_true] at z
    cases q
    unfold vOf
    rw [if_pos z.1.1, if_pos z.1.2]
    exact kit_ty (isi_sub z.1.1 z.1.2 z.2)
  · exact h.of q
theorem cl_at {y : V} {dy : D} {k : String} (r : Rep K ca F m y dy) (h : clOf dy = some k) : ClsV y (vOf ca k) := by
  cases r with
  | ty n =>
    unfold clOf at h
    simp only at h
    split at h
    · rename_i z; cases h; unfold vOf; rw [if_pos z]; exact .ty _
    · cases h
  | nm C =>
    unfold clOf at h
    simp only at h
    split at h
    · cases h
    · rename_i z; cases h; unfold vOf; rw [if_neg z]; exact .own _
  | _ => cases h
/-- how isinstance sees a thing -/
inductive Sees (K : PySem.W.Frag) (H : Hp) (x : V) (u : Value) : Prop
  | ty : TyX K H x u → Sees K H x u
  | exc {a C : Addr} : x = .ref a → u = .ref C → H a = some (ExK C a) → ExcC K C → Sees K H x u
theorem sees_of {os xs : List String} {x : V} {n : String} (ho : AllC (fun C => InC K (ca C) ∧ btn C = false) os) (hx : AllC (fun C => ExcC K (ca C) ∧ btn C = false) xs) (R : Rl K ca F m A H) (rx : Rep K ca F m x dx) (h : kdOf os xs A dx = some n) : Sees K H x (vOf ca n) := by
  cases rx with
  | non => cases h; exact .ty (.base .non)
  | bl b => cases h; exact .ty (.base (.bl b))
  | int b => cases h; exact .ty (.base (.int b))
  | str b => cases h; exact .ty (.base (.str b))
  | tup s r => cases h; exact .ty (.base (.tup (R.fh _ _ s)))
  | exc s =>
    rename_i a C
    unfold kdOf at h
    simp only at h
    split at h
    · rename_i z; cases h
      have k := AllC.of hx z
      refine .exc rfl ?_ (R.fh _ _ s) k.1
      unfold vOf; rw [k.2]; rfl
    · cases h
  | ref hm =>
    unfold kdOf at h
    simp only at h
    split at h
    · rename_i l hA
      cases h
      obtain ⟨a, vs, e, h1, h2, h3⟩ := lst_at R (.ref hm) hA
      rw [e]
      exact .ty (.base (.lst h2))
    · rename_i t lk l hA
      split at h
      · cases h
      · rename_i z
        cases h
        obtain ⟨a, e, ha, r⟩ := R.at hA (.ref hm)
        rw [e]
        cases t with
        | false =>
          obtain ⟨kvs, h1, _⟩ := r
          cases lk with
          | false => exact .ty (.base (.dK h1))
          | true => obtain ⟨od, h1⟩ := h1; exact .ty (.fDict h1)
        | true =>
          obtain ⟨kvs, h1, _⟩ := r
          cases lk with
          | false => exact .ty (.base (.dT h1))
          | true => exact absurd rfl z
    · rename_i C fs hA
      split at h
      · rename_i z
        cases h
        obtain ⟨a, e, ha, dxx, kvs, h1, _⟩ := R.at hA (.ref hm)
        rw [e]
        have k := AllC.of ho z
        have i := k.1
        refine .ty (.base ?_)
        unfold vOf
        rw [k.2]
        exact .ins h1 i.cl i.ha i.hn i.ht i.hm
      · cases h
    · cases h
  | _ => cases h
theorem isiAny_kit {tb : List (String × String × Bool)} (ht : TbOk K ca tb) {n : String} : ∀ {vs : List V} {l : List D} {b : Bool}, RepL K ca F m vs l → isiAll l = true → isiAny tb n l = some b → ∃ us, Paired ClsV vs us ∧ PySem.W.kitAny K (vOf ca n) us = some b
  | _, _, _, .nil, _, h => by cases h; exact ⟨[], .nil, kitAny_nil⟩
  | _, _, _, .cons r rs, ha, h => by
    unfold isiAll at ha
    rw [Bool.and_eq_true] at ha
    unfold isiAny at h
    cases q : clOf _ with
    | none => rw [q] at h; cases h
    | some k =>
      rw [q] at h
      simp only at h
      cases q2 : isiOf tb n k with
      | none => rw [q2] at h; cases h
      | some c =>
        rw [q2] at h
        have k1 := isi_of ht q2
        cases c with
        | true =>
          cases h
          -- the rest only has to be classes
          have rest : ∀ {vs : List V} {l : List D}, RepL K ca F m vs l → isiAll l = true → ∃ us, Paired ClsV vs us := by
            intro vs l
            induction l generalizing vs with
            | nil => intro r _; cases r; exact ⟨[], .nil⟩
            | cons d l ih =>
              intro r hl
              cases r with
              | cons r1 r2 =>
                unfold isiAll at hl
                rw [Bool.and_eq_true] at hl
                obtain ⟨us, hus⟩ := ih r2 hl.2
                cases z : clOf d with
                | none => rw [z] at hl; cases hl.1
                | some kk => exact ⟨_ :: us, .cons (cl_at r1 z) hus⟩
          obtain ⟨us, hus⟩ := rest rs ha.2
          exact ⟨_ :: us, .cons (cl_at r q) hus, kitAny_cons k1 (fun z => by cases z) fun _ => rfl⟩
        | false =>
          obtain ⟨us, h1, h2⟩ := isiAny_kit ht rs ha.2 h
          exact ⟨_ :: us, .cons (cl_at r q) h1, kitAny_cons k1 (fun _ => h2) fun z => by cases z⟩
/-- isinstance(x, c) -/
theorem cs_isi {os xs : List String} {tb : List (String × String × Bool)} (ho : AllC (fun C => InC K (ca C) ∧ btn C = false) os) (hx : AllC (fun C => ExcC K (ca C) ∧ btn C = false) xs) (ht : TbOk K ca tb) : CbS K ca (rIsiU K) (c2 (oIsi os xs tb)) := cs_2 fun F m A H x y dx dy W σ Q R rx ry p => by
  unfold oIsi at p
  cases q : isiD os xs tb A dx dy with
  | none => rw [q] at p; exact p.elim
  | some b =>
    rw [q] at p
    have hq := po_ok R (Rep.bl _) p
    unfold isiD at q
    cases z : kdOf os xs A dx with
    | none => rw [z] at q; cases q
    | some n =>
      rw [z] at q
      have sees := sees_of ho hx R rx z
      have one : ∀ k, clOf dy = some k → isiOf tb n k = some b → rIsiU K [x, y] H Q := fun k h1 h2 => by
        have kit := isi_of ht h2
        have cl := cl_at ry h1
        cases sees with
        | ty t => exact .inl ⟨x, y, _, _, b, rfl, cl, t, kit, hq⟩
        | exc e1 e2 e3 e4 =>
          subst e1
          rw [e2] at kit
          exact .inr (.inr (.inl ⟨_, _, y, _, b, rfl, e3, e4, cl, kit, hq⟩))
      cases ry with
      | tup s rs =>
        simp only at q
        split at q
        · rename_i ha
          obtain ⟨us, h1, h2⟩ := isiAny_kit ht rs ha q
          cases sees with
          | ty t => exact .inr (.inl ⟨x, _, _, _, us, b, rfl, R.fh _ _ s, h1, t, h2, hq⟩)
          | exc e1 e2 e3 e4 =>
            subst e1
            rw [e2] at h2
            exact .inr (.inr (.inr ⟨_, _, _, _, us, b, rfl, e3, e4, R.fh _ _ s, h1, h2, hq⟩))
        · cases q
      | ty n' =>
        simp only at q
        split at q
        · rename_i k hk; exact one k hk q
        · cases q
      | nm n' =>
        simp only at q
        split at q
        · rename_i k hk; exact one k hk q
        · cases q
      | _ => simp [clOf] at q
end
end SM

namespace L2
open PySem PySem.Spec PyProof.Rows
theorem extT_go (l : Addr) (items : Array Value) (n : Nat) (b : Addr) (items2 : Array Value) (n2 : Nat) (dd : Option Addr) (sl : Array (Option Value)) (hs0 : ¬(!items.isEmpty && Builtin.List.listTooLong (items.size + items2.size)) = true) (hs1 : items.size ≤ sizeLine) (hs2 : items.size + items2.size ≤ sizeLine + 1) :
    Meets (Builtin.«list.extend» ⟨[.ref l, .ref b], []⟩) (fun _ R s => s.heap.get? l = some { cls := .type "list", dict := none, data := .seq items n, slots := #[] } ∧ s.heap.get? b = some { cls := .type "tuple", dict := dd, data := .seq items2 n2, slots := sl } ∧ R (.ok (.ret Value.none)) { s with heap := s.heap.update l (Obj.mapSeq fun x => x ++ items2), toks := s.toks }) :=
  .of_wp fun prog w A R s h => by
    obtain ⟨hp, g, d, tk, os⟩ := s; obtain ⟨hl, hb, h⟩ := h
    have f1 := AutoSeq1.idx_int; have f2 := AutoSeq1.sub_tuple_tuple; have f3 := AutoSeq1.sub_list_list; have f4 := AutoSeq1.sub_tuple_list; have f5 := AutoSeq1.sub_list_tuple
    have hz' : (items ++ items2).size ≤ sizeLine + 1 := by rw [Array.size_append]; exact hs2
    wp_walk using (wpAny_updateSeq hl rfl (hz := hs1) (_hz' := hz')), wpAny_loadPart' hl, wpAny_loadPart' hb; exact ⟨_, rfl, h⟩
/-- xs.extend(tuple) -/
def rExtT (K : PySem.W.Frag) : V → List V → Hp → VK → Prop := fun x vs H Q => ∃ l b xs zs, x = .ref l ∧ vs = [.ref b] ∧ H l = some (.lst xs) ∧ H b = some (.tup zs) ∧ xs.length + zs.length ≤ sizeLine ∧ Q .non (upd H l (.lst (xs ++ zs)))
theorem mt_extT {X : Cx} : MtR X "list.extend" (rExtT X.K) := by
  intro pins s σ H x vs v us Q I rx rv h
  obtain ⟨l, b, xs, zs, rfl, rfl, hH, hB, hz, q⟩ := h
  cases rx
  obtain ⟨u, rfl, ru⟩ := rv.one
  cases ru
  obtain ⟨z, its, n, r, hl, e⟩ := I.lstM hH
  obtain ⟨z2, its2, r2, ⟨oc, od, dt, sl⟩, e2, hc2, n2, hd2⟩ := (show ObjOk X.prog X.w H s.heap b (.tup zs) from I.hok b _ hB)
  dsimp only at hc2 hd2
  subst hc2 hd2
  have hl2 := r2.length
  have hsz : its.toArray.size + its2.toArray.size ≤ sizeLine := by rw [List.size_toArray, List.size_toArray]; omega
  have hlong : ¬ (!its.toArray.isEmpty && Builtin.List.listTooLong (its.toArray.size + its2.toArray.size)) = true := by
    rw [notLongL hsz, Bool.and_false]
    exact Bool.false_ne_true
  refine call_meets F.slot_list_extend ⟨_, e, rfl⟩ F.entry_list_extend (F.args_list_extend_2 _ _)
    (extT_go l its.toArray n b its2.toArray n2 od sl hlong (by rw [List.size_toArray]; omega) (by omega)) ⟨e, e2, ?_⟩
  refine ⟨.non, _, I.lset (its' := its ++ its2) hH e (by simp) (r.append r2) ?_, rfl, q⟩
  rw [List.length_append]
  omega
def rExtA (K : PySem.W.Frag) : V → List V → Hp → VK → Prop := fun x vs H Q => rExtend x vs H Q ∨ rExtT K x vs H Q
end L2
namespace SM
open PySem L2
open DL (Ex ExK rInt1 iSeqU rng rngC rng_len rngC_len rng_get rngC_get enumD enumD_len enumD_get zipD)
section
variable {K : PySem.W.Frag} {ca : String → Addr} {F F1 F2 H H1 H2 : Hp} {m m1 m2 : List Addr} {A A1 A2 : Hs} {σ : L2.St} {env : Sl} {W : WX} {Q : VK}
variable {ta tb tc te to ti : TE} {a b c o : E} {i : Nat} {d : D} {ts : TA} {as : As} {x : V} {dx : D}
/-! ### what is walked -/
theorem SimI.pick {t u : TI} {f g h : Sl → Hs → RE Wk} (h1 : SimI K ca W t g) (h2 : SimI K ca W u h) (k : ∀ env A, f env A = g env A ∨ f env A = h env A) : SimI K ca W (fun σ H R => t σ H R ∨ u σ H R) f := fun F m A σ H env Q R S p => by
  rcases k env A with q | q
  · rw [q] at p; exact .inl (h1 F m A σ H env Q R S p)
  · rw [q] at p; exact .inr (h2 F m A σ H env Q R S p)
def tt : Hs → Prop := fun _ => True
/-- the signs of a text -/
def signsOf (z : Str) : List D := z.cps.toList.map fun c => .str ⟨#[c]⟩
def wkL (A : Hs) (x : D) : Option Wk := match x with
  | .ref i => match A[i]? with
    | some (.lst l) => some ⟨l, fun A' => A'[i]? = some (.lst l)⟩
    | _ => none
  | .scr l => some ⟨l, tt⟩
  | _ => none
def wkT (_ : Hs) (x : D) : Option Wk := match x with
  | .tup l => some ⟨l, tt⟩
  | .wt l => some ⟨l, tt⟩
  | _ => none
def wkS (_ : Hs) (x : D) : Option Wk := match x with
  | .str z => some ⟨signsOf z, tt⟩
  | _ => none
/-- a list, a tuple, a text -/
def wkA (A : Hs) (x : D) : Option Wk := match x with
  | .ref _ => wkL A x
  | .scr _ => wkL A x
  | .tup _ => wkT A x
  | .wt _ => wkT A x
  | _ => wkS A x
def wOf (f : Hs → D → Option Wk) (a : E) : Sl → Hs → RE Wk := fun env A => (a env A).bind fun x A1 => match f A1 x with
  | some k => .ok k A1
  | none => .stuck
def wSeq (a : E) : Sl → Hs → RE Wk := wOf wkA a
theorem wOf_bind {f : Hs → D → Option Wk} {R' : It → Hp → Prop} {T : VK} (h : SimE K ca W te a) (R : Rl K ca F m A H) (S : Slt K ca F m σ env) (p : PoW K ca F m H W σ R' (wOf f a env A))
    (k : ∀ F1 m1 A1 H1 x d kk, Rl K ca F1 m1 A1 H1 → Rep K ca F1 m1 x d → f A1 d = some kk → PoW K ca F1 m1 H1 W σ R' (.ok kk A1) → T x H1) : te σ H T := by
  refine h F m A σ H env T R S ?_
  unfold wOf at p
  cases q : a env A with
  | ok d A1 =>
    rw [q] at p
    intro v F1 m1 H1 R1 g1 r
    simp only [RE.bind] at p
    cases z : f A1 d with
    | none => rw [z] at p; exact p.elim
    | some kk =>
      rw [z] at p
      exact k F1 m1 A1 H1 v d kk R1 r z fun J F' m' H' R2 g2 hh => p J F' m' H' R2 (g1.trans g2) hh
  | exc C A1 => rw [q] at p; exact p
  | stuck => rw [q] at p; exact p
/-- the list at a, as it is at each turn -/
theorem walk_live {a : Addr} {n : Nat} : Walk (Itl K a) n (fun H => ∃ vs, SqL K H a vs ∧ vs.length = n) (fun i H x H' => H' = H ∧ ∀ xs, SqL K H a xs → xs[i]? = some x) :=
  ⟨fun i _ hi ⟨vs, q, e⟩ => ⟨vs, vs[i]'(by omega), q, by simp [show i < vs.length by omega]⟩, fun _ ⟨vs, q, e⟩ => ⟨vs, q, by omega⟩, fun _ _ _ _ _ _ y => y⟩
theorem sw_list (h : SimE K ca W te a) : SimI K ca W (iList K te) (wOf wkL a) := fun F m A σ H env Q R S p => wOf_bind h R S p fun F1 m1 A1 H1 x d kk R1 r hk p1 => by
  cases r with
  | ref hm =>
    rename_i aa i
    unfold wkL at hk
    simp only at hk
    cases hA : A1[i]? with
    | none => simp [hA] at hk
    | some o =>
      cases o with
      | lst l =>
        simp only [hA, Option.some.injEq] at hk
        subst hk
        obtain ⟨a', vs, e, h1, h2, h3⟩ := lst_at R1 (.ref hm) hA
        cases e
        refine ⟨aa, rfl, ⟨vs, .inl (.inl h2)⟩, p1 _ F1 m1 H1 R1 Stp.refl ⟨_, _, walk_live, fun F2 m2 A2 H2 hg R2 g2 => ?_, fun i' d' x' F2 m2 A2 H2 H3 e hg R2 g2 y => .inl ⟨y.1, ?_⟩⟩⟩
        · obtain ⟨a2, vs2, e2, _, h4, h5⟩ := lst_at R2 (.ref (g2.mm.get h1)) hg
          cases e2
          exact ⟨vs2, .inl (.inl h4), h5.length⟩
        · obtain ⟨a2, vs2, e2, _, h4, h5⟩ := lst_at R2 (.ref (g2.mm.get h1)) hg
          cases e2
          obtain ⟨z, z1, z2⟩ := h5.get e
          have := y.2 vs2 (.inl (.inl h4))
          rw [z1] at this; cases this; exact z2
      | dic _ _ _ => simp [hA] at hk
      | obj _ _ => simp [hA] at hk
  | scr s rs =>
    cases hk
    refine ⟨_, rfl, ⟨_, R1.fh.l s⟩, p1 _ F1 m1 H1 R1 Stp.refl ⟨_, _, walk_live, fun F2 m2 A2 H2 hg R2 g2 => ⟨_, R2.fh.l (g2.ff.l s), rs.length⟩, fun i' d' x' F2 m2 A2 H2 H3 e hg R2 g2 y => .inl ⟨y.1, ?_⟩⟩⟩
    obtain ⟨z, z1, z2⟩ := rs.get e
    have := y.2 _ (R2.fh.l (g2.ff.l s))
    rw [z1] at this; cases this; exact z2.mono g2.ff g2.mm
  | _ => cases hk
theorem sw_tup (h : SimE K ca W te a) : SimI K ca W (iTup K te) (wOf wkT a) := fun F m A σ H env Q R S p => wOf_bind h R S p fun F1 m1 A1 H1 x d kk R1 r hk p1 => by
  have main : ∀ {aa : Addr} {vs : List V} {l : List D}, SqT K F1 aa vs → RepL K ca F1 m1 vs l → kk = ⟨l, tt⟩ → x = .ref aa → ∃ a, x = .ref a ∧ (∃ xs, SqT K H1 a xs) ∧ Q (Itt K a) H1 := fun {aa vs l} s rs e ex => by
    subst e
    refine ⟨aa, ex, ⟨vs, R1.fh.t s⟩, p1 _ F1 m1 H1 R1 Stp.refl ⟨fun H => SqT K H aa vs, YAt vs, by rw [show (Wk.mk l _).ds.length = vs.length from rs.length.symm]; exact walk_tup, fun F2 m2 A2 H2 hg R2 g2 => R2.fh.t (g2.ff.t s), fun i' d' x' F2 m2 A2 H2 H3 e hg R2 g2 y => .inl ⟨y.1, ?_⟩⟩⟩
    obtain ⟨z, z1, z2⟩ := rs.get e
    have := y.2
    rw [z1] at this; cases this; exact z2.mono g2.ff g2.mm
  cases r with
  | tup s rs => cases hk; exact main (.inl (.inl s)) rs rfl rfl
  | wt s rs => cases hk; exact main s rs rfl rfl
  | _ => cases hk
theorem sw_str (h : SimE K ca W te a) : SimI K ca W (iStr te) (wOf wkS a) := fun F m A σ H env Q R S p => wOf_bind h R S p fun F1 m1 A1 H1 x d kk R1 r hk p1 => by
  cases r with
  | str z =>
    cases hk
    refine ⟨z, rfl, p1 _ F1 m1 H1 R1 Stp.refl ⟨fun _ => True, (fun i H v H' => H' = H ∧ ∃ c, z.cps[i]? = some c ∧ v = .str ⟨#[c]⟩), by rw [show (Wk.mk (signsOf z) _).ds.length = z.cps.size by unfold signsOf; simp]; exact walk_str, fun _ _ _ _ _ _ _ => trivial, fun i' d' x' F2 m2 A2 H2 H3 e hg R2 g2 y => .inl ⟨y.1, ?_⟩⟩⟩
    obtain ⟨_, c, h1, h2⟩ := y
    have e' : (signsOf z)[i']? = some d' := e
    unfold signsOf at e'
    rw [List.getElem?_map, Array.getElem?_toList, h1] at e'
    cases e'
    rw [h2]
    exact .str _
  | _ => cases hk
theorem wOf_pick {f g h : Hs → D → Option Wk} {a : E} (k : ∀ A x, f A x = g A x ∨ f A x = h A x) (env : Sl) (A : Hs) : wOf f a env A = wOf g a env A ∨ wOf f a env A = wOf h a env A := by
  unfold wOf
  cases a env A with
  | stuck => exact .inl rfl
  | exc _ _ => exact .inl rfl
  | ok x A1 =>
    simp only [RE.bind]
    rcases k A1 x with q | q
    · rw [q]; exact .inl rfl
    · rw [q]; exact .inr rfl
def wkTS (A : Hs) (x : D) : Option Wk := match x with
  | .tup _ => wkT A x
  | .wt _ => wkT A x
  | _ => wkS A x
theorem sw_seq (h : SimE K ca W te a) : SimI K ca W (iSeqU K te) (wSeq a) := SimI.pick (sw_list h) (SimI.pick (sw_tup h) (sw_str h) (wOf_pick (f := wkTS) fun A x => by cases x <;> first | exact .inl rfl | exact .inr rfl)) (wOf_pick fun A x => by cases x <;> first | exact .inl rfl | exact .inr rfl)
/-! ranges -/
def wAs (f : List D → Option Wk) (as : As) : Sl → Hs → RE Wk := fun env A => (as env A).bind fun ds A1 => match f ds with
  | some k => .ok k A1
  | none => .stuck
theorem wAs_bind {f : List D → Option Wk} {R' : It → Hp → Prop} {T : List V → Hp → Prop} (h : SimA K ca W ts as) (R : Rl K ca F m A H) (S : Slt K ca F m σ env) (p : PoW K ca F m H W σ R' (wAs f as env A))
    (k : ∀ F1 m1 A1 H1 x d kk, Rl K ca F1 m1 A1 H1 → RepL K ca F1 m1 x d → f d = some kk → PoW K ca F1 m1 H1 W σ R' (.ok kk A1) → T x H1) : ts σ H T := by
  refine h F m A σ H env T R S ?_
  unfold wAs at p
  cases q : as env A with
  | ok d A1 =>
    rw [q] at p
    intro v F1 m1 H1 R1 g1 r
    simp only [RE.bind] at p
    cases z : f d with
    | none => rw [z] at p; exact p.elim
    | some kk =>
      rw [z] at p
      exact k F1 m1 A1 H1 v d kk R1 r z fun J F' m' H' R2 g2 hh => p J F' m' H' R2 (g1.trans g2) hh
  | exc C A1 => rw [q] at p; exact p
  | stuck => rw [q] at p; exact p
def big (i : Int) : Prop := -(2 ^ 62) ≤ i ∧ i < 2 ^ 62
def rgL (lo c : Int) (n : Nat) : List D := (List.range n).map fun i => .int (lo + (i : Nat) * c)
theorem rgL_get {lo c : Int} {n i : Nat} {d : D} (h : (rgL lo c n)[i]? = some d) : d = .int (lo + (i : Nat) * c) ∧ i < n := by
  unfold rgL at h
  rw [List.getElem?_map] at h
  by_cases q : i < n
  · rw [List.getElem?_range q] at h; cases h; exact ⟨rfl, q⟩
  · rw [List.getElem?_eq_none (by simpa using Nat.le_of_not_lt q)] at h; cases h
theorem rgL_len {lo c : Int} {n : Nat} : (rgL lo c n).length = n := by unfold rgL; simp
open Classical in
noncomputable def rg1 : List D → Option Wk
  | [.int j] => if big j then some ⟨rgL 0 1 j.toNat, tt⟩ else none
  | _ => none
open Classical in
noncomputable def rg2 : List D → Option Wk
  | [.int i, .int j] => if big i ∧ big j then some ⟨rgL i 1 (j - i).toNat, tt⟩ else none
  | _ => none
def cnt (i j c : Int) : Nat := (if i < j then (j - i - 1) / c + 1 else 0).toNat
open Classical in
noncomputable def rg3 : List D → Option Wk
  | [.int i, .int j, .int c] => if -(2 ^ 60) ≤ i ∧ i < 2 ^ 60 ∧ -(2 ^ 60) ≤ j ∧ j < 2 ^ 60 ∧ 0 < c ∧ c < 1000000 then some ⟨rgL i c (cnt i j c), tt⟩ else none
  | _ => none
theorem sw_r1 (h : SimA K ca W ts as) : SimI K ca W (iRng1 ts) (wAs rg1 as) := fun F m A σ H env Q R S p => wAs_bind h R S p fun F1 m1 A1 H1 x d kk R1 r hk p1 => by
  match d, x, r, hk with
  | [.int j], _, .cons (.int _) .nil, hk =>
    unfold rg1 at hk
    simp only at hk
    split at hk
    · rename_i hb
      cases hk
      refine ⟨j, rfl, hb.1, hb.2, p1 _ F1 m1 H1 R1 Stp.refl ⟨fun _ => True, YFn fun i => .int (0 + i), by rw [show (Wk.mk (rgL 0 1 j.toNat) _).ds.length = j.toNat from rgL_len]; exact walk_range, fun _ _ _ _ _ _ _ => trivial, fun i' d' x' F2 m2 A2 H2 H3 e hg R2 g2 y => .inl ⟨y.1, ?_⟩⟩⟩
      obtain ⟨e1, _⟩ := rgL_get e
      rw [y.2, e1, Int.mul_one]; exact .int _
    · cases hk
theorem sw_r2 (h : SimA K ca W ts as) : SimI K ca W (iRng2 ts) (wAs rg2 as) := fun F m A σ H env Q R S p => wAs_bind h R S p fun F1 m1 A1 H1 x d kk R1 r hk p1 => by
  match d, x, r, hk with
  | [.int i, .int j], _, .cons (.int _) (.cons (.int _) .nil), hk =>
    unfold rg2 at hk
    simp only at hk
    split at hk
    · rename_i hb
      cases hk
      refine ⟨i, j, rfl, ⟨hb.1.1, hb.1.2, hb.2.1, hb.2.2⟩, p1 _ F1 m1 H1 R1 Stp.refl ⟨fun _ => True, YFn fun n => .int (i + n), by rw [show (Wk.mk (rgL i 1 (j - i).toNat) _).ds.length = (j - i).toNat from rgL_len]; exact walk_range, fun _ _ _ _ _ _ _ => trivial, fun i' d' x' F2 m2 A2 H2 H3 e hg R2 g2 y => .inl ⟨y.1, ?_⟩⟩⟩
      obtain ⟨e1, _⟩ := rgL_get e
      rw [y.2, e1, Int.mul_one]; exact .int _
    · cases hk
/-! enumerate, zip -/
def enumL (l : List D) : List D := l.zipIdx.map fun p => .tup [.int (p.2 : Nat), p.1]
theorem enumL_len {l : List D} : (enumL l).length = l.length := by simp [enumL]
theorem enumL_get {l : List D} {i : Nat} {d : D} (h : (enumL l)[i]? = some d) : ∃ x, l[i]? = some x ∧ d = .tup [.int (i : Nat), x] := by
  unfold enumL at h
  rw [List.getElem?_map, List.getElem?_zipIdx] at h
  cases q : l[i]? with
  | none => rw [q] at h; cases h
  | some x => rw [q] at h; simp at h; exact ⟨x, rfl, h.symm⟩
def wkE (A : Hs) (x : D) : Option Wk := (wkL A x).map fun k => ⟨enumL k.ds, k.gd⟩
theorem walk_enumL {a : Addr} {n : Nat} : Walk (Ite K a) n (fun H => ∃ vs, SqL K H a vs ∧ vs.length = n) (fun i H v H' => ∃ T x, v = .ref T ∧ H T = none ∧ H' = upd H T (.tup [.int (i : Nat), x]) ∧ ∀ xs, SqL K H a xs → xs[i]? = some x) :=
  ⟨fun i _ hi ⟨vs, q, e⟩ => ⟨vs, vs[i]'(by omega), q, by simp [show i < vs.length by omega]⟩, fun _ ⟨vs, q, e⟩ => ⟨vs, q, by omega⟩, fun _ _ _ _ _ _ y => y⟩
theorem sw_enum (h : SimE K ca W te a) : SimI K ca W (iEnum K (tCons te tNil)) (wOf wkE a) := fun F m A σ H env Q R S p => wOf_bind h R S p fun F1 m1 A1 H1 x d kk R1 r hk p1 => by
  cases r with
  | ref hm =>
    rename_i aa i
    unfold wkE wkL at hk
    simp only at hk
    cases hA : A1[i]? with
    | none => simp [hA] at hk
    | some o =>
      cases o with
      | lst l =>
        simp only [hA, Option.map, Option.some.injEq] at hk
        subst hk
        obtain ⟨a', vs, e, h1, h2, h3⟩ := lst_at R1 (.ref hm) hA
        cases e
        refine ⟨aa, vs, rfl, .inl (.inl h2), p1 _ F1 m1 H1 R1 Stp.refl ⟨_, _, walk_enumL, fun F2 m2 A2 H2 hg R2 g2 => ?_, fun i' d' x' F2 m2 A2 H2 H3 e hg R2 g2 y => .inr ?_⟩⟩
        · obtain ⟨a2, vs2, e2, _, h4, h5⟩ := lst_at R2 (.ref (g2.mm.get h1)) hg
          cases e2
          exact ⟨vs2, .inl (.inl h4), by rw [h5.length]; exact enumL_len.symm⟩
        · obtain ⟨a2, vs2, e2, _, h4, h5⟩ := lst_at R2 (.ref (g2.mm.get h1)) hg
          cases e2
          obtain ⟨T, z, y1, y2, y3, y4⟩ := y
          obtain ⟨dx, q1, q2⟩ := enumL_get e
          obtain ⟨w, w1, w2⟩ := h5.get q1
          have := y4 vs2 (.inl (.inl h4))
          rw [w1] at this; cases this
          exact ⟨T, _, _, q2, y1, y2, y3, .cons (.int _) (.cons w2 .nil)⟩
      | dic _ _ _ => simp [hA] at hk
      | obj _ _ => simp [hA] at hk
  | scr s rs =>
    cases hk
    refine ⟨_, _, rfl, R1.fh.l s, p1 _ F1 m1 H1 R1 Stp.refl ⟨_, _, walk_enumL, fun F2 m2 A2 H2 hg R2 g2 => ⟨_, R2.fh.l (g2.ff.l s), by rw [rs.length]; exact enumL_len.symm⟩, fun i' d' x' F2 m2 A2 H2 H3 e hg R2 g2 y => .inr ?_⟩⟩
    obtain ⟨T, z, y1, y2, y3, y4⟩ := y
    obtain ⟨dx, q1, q2⟩ := enumL_get e
    obtain ⟨w, w1, w2⟩ := rs.get q1
    have := y4 _ (R2.fh.l (g2.ff.l s))
    rw [w1] at this; cases this
    exact ⟨T, _, _, q2, y1, y2, y3, .cons (.int _) (.cons (w2.mono g2.ff g2.mm) .nil)⟩
  | _ => cases hk

/-! ### methods of lists -/
def eBL (o : D → List D → Hs → RE D) (a : E) (as : As) : E := fun env A => (a env A).bind fun x A1 => if (seqL A1 x).isSome then (as env A1).bind fun ds A2 => o x ds A2 else .stuck
def eBL0 (o : D → Hs → RE D) (a : E) : E := fun env A => (a env A).bind fun x A1 => if (seqL A1 x).isSome then o x A1 else .stuck
def MbS (K : PySem.W.Frag) (ca : String → Addr) (r : V → List V → Hp → VK → Prop) (o : D → List D → Hs → RE D) : Prop := ∀ F m A H x dx vs ds W σ Q, Rl K ca F m A H → Rep K ca F m x dx → RepL K ca F m vs ds → Po K ca (Rep K ca) F m H W σ Q (o dx ds A) → r x vs H Q
theorem tyL_at {A : Hs} (R : Rl K ca F m A H) (r : Rep K ca F m x dx) (h : (seqL A dx).isSome = true) : tyV K "list" x H := by
  obtain ⟨l, hl⟩ := Option.isSome_iff_exists.mp h
  obtain ⟨a, vs, e, h1, h2⟩ := seqL_at R r hl
  subst e
  exact .inl ⟨rfl, vs, h1⟩
theorem se_bl_ {r : V → List V → Hp → VK → Prop} {o : D → List D → Hs → RE D} (h : MbS K ca r o) (ha : SimE K ca W ta a) (hs : SimA K ca W ts as) : SimE K ca W (tBM K "list" r ta ts) (eBL o a as) := fun F m A σ H env Q R S p =>
  ha.bind R S p fun F1 m1 A1 H1 x dx R1 g1 S1 rx p1 => by
    by_cases q : (seqL A1 dx).isSome = true
    · rw [if_pos q] at p1
      exact ⟨tyL_at R1 rx q, hs.bind R1 S1 p1 fun F2 m2 A2 H2 vs ds R2 g2 S2 rs p2 => h F2 m2 A2 H2 x dx vs ds W σ Q R2 (rx.mono g2.ff g2.mm) rs p2⟩
    · rw [if_neg q] at p1; exact p1.elim
/-- the list that stands at a place -/
def lstAt (A : Hs) : D → Option (Nat × List D)
  | .ref i => match A[i]? with
    | some (.lst l) => some (i, l)
    | _ => none
  | _ => none
theorem lstAt_at {A : Hs} {l : List D} (h : lstAt A dx = some (i, l)) : dx = .ref i ∧ A[i]? = some (.lst l) := by
  cases dx with
  | ref j =>
    unfold lstAt at h
    cases q : A[j]? with
    | none => simp [q] at h
    | some o =>
      cases o with
      | lst l' => simp [q] at h; obtain ⟨rfl, rfl⟩ := h; exact ⟨rfl, q⟩
      | dic _ _ _ => simp [q] at h
      | obj _ _ => simp [q] at h
  | _ => cases h
theorem po_put {v : V} {d : D} {a : Addr} {vs vs' : List V} {l' : List D} (R : Rl K ca F m A H) (ha : m[i]? = some a) (h1 : H a = some (.lst vs)) (r : RepL K ca F m vs' l') (rv : Rep K ca F m v d) (p : Po K ca (Rep K ca) F m H W σ Q (.ok d (A.set i (.lst l')))) : Q v (upd H a (.lst vs')) := by
  obtain ⟨R2, g2⟩ := lst_put R ha h1 r
  exact p _ _ _ _ R2 g2 rv
def oAppend (x : D) (ds : List D) (A : Hs) : RE D := match lstAt A x, ds with
  | some (i, l), [d] => if l.length < sizeLine then .ok .non (A.set i (.lst (l ++ [d]))) else .stuck
  | _, _ => .stuck
theorem ms_append : MbS K ca rAppend oAppend := fun F m A H x dx vs ds W σ Q R rx rs p => by
  unfold oAppend at p
  split at p
  · rename_i i l d hA
    split at p
    · rename_i hl
      obtain ⟨e, hA2⟩ := lstAt_at hA
      subst e
      obtain ⟨a, vs', e, h1, h2, h3⟩ := lst_at R rx hA2
      match vs, rs with
      | [y], .cons r1 .nil => exact ⟨a, vs', y, e, rfl, h2, by rw [h3.length]; exact hl, po_put R h1 h2 (h3.append (.cons r1 .nil)) .non p⟩
    · exact p.elim
  · exact p.elim
def oExtend (x : D) (ds : List D) (A : Hs) : RE D := match lstAt A x, ds with
  | some (i, l), [d] => match lstAt A d with
    | some (_, k) => if l.length + k.length ≤ sizeLine then .ok .non (A.set i (.lst (l ++ k))) else .stuck
    | none => match d with
      | .tup k => if l.length + k.length ≤ sizeLine then .ok .non (A.set i (.lst (l ++ k))) else .stuck
      | _ => .stuck
  | _, _ => .stuck
theorem ms_extend : MbS K ca (rExtA K) oExtend := fun F m A H x dx vs ds W σ Q R rx rs p => by
  unfold oExtend at p
  split at p
  · rename_i i l d hA
    obtain ⟨e, hA2⟩ := lstAt_at hA
    subst e
    obtain ⟨a, vs', e, h1, h2, h3⟩ := lst_at R rx hA2
    match vs, rs with
    | [y], .cons r1 .nil =>
      split at p
      · rename_i j k hB
        split at p
        · rename_i hl
          obtain ⟨e2, hB2⟩ := lstAt_at hB
          subst e2
          obtain ⟨b, ws, e3, h4, h5, h6⟩ := lst_at R r1 hB2
          exact .inl ⟨a, b, vs', ws, e, by rw [e3], h2, h5, by rw [h3.length, h6.length]; exact hl, po_put R h1 h2 (h3.append h6) .non p⟩
        · exact p.elim
      · cases r1 with
        | tup s rs' =>
          simp only at p
          split at p
          · rename_i hl
            exact .inr ⟨a, _, vs', _, e, rfl, h2, R.fh _ _ s, by rw [h3.length, rs'.length]; exact hl, po_put R h1 h2 (h3.append rs') .non p⟩
          · exact p.elim
        | _ => exact p.elim
  · exact p.elim
def oPopAt (x : D) (ds : List D) (A : Hs) : RE D := match lstAt A x, ds with
  | some (i, l), [.int j] => if -(2 ^ 63) ≤ j ∧ j < 2 ^ 63 then match seqIndex? j l.length with
      | some k => match l[k]? with
        | some d => .ok d (A.set i (.lst (l.eraseIdx k)))
        | none => .stuck
      | none => .stuck
    else .stuck
  | _, _ => .stuck
theorem ms_popAt : MbS K ca rPopAt oPopAt := fun F m A H x dx vs ds W σ Q R rx rs p => by
  unfold oPopAt at p
  split at p
  · rename_i i l j hA
    obtain ⟨e, hA2⟩ := lstAt_at hA
    subst e
    obtain ⟨a, vs', e, h1, h2, h3⟩ := lst_at R rx hA2
    split at p
    · rename_i hj
      split at p
      · rename_i k hk
        split at p
        · rename_i d hd
          obtain ⟨v, h4, h5⟩ := h3.get hd
          match vs, rs with
          | [_], .cons (.int _) .nil => exact ⟨a, vs', j, k, v, e, rfl, h2, hj.1, hj.2, by rw [h3.length]; exact hk, h4, po_put R h1 h2 (h3.eraseIdx k) h5 p⟩
        · exact p.elim
      · exact p.elim
    · exact p.elim
  · exact p.elim
def oClear (x : D) (A : Hs) : RE D := match lstAt A x with
  | some (i, _) => .ok .non (A.set i (.lst []))
  | none => .stuck
/-- bs.count(c), bs.index(c), of truths -/
def oCount (x : D) (ds : List D) (A : Hs) : RE D := match (seqL A x).bind boolsOf, ds with
  | some bs, [.bl c] => .ok (.int (bs.count c : Nat)) A
  | _, _ => .stuck
end
end SM

namespace SM
open PySem L2
open DL (Ex ExK rJoin rIdxS)
section
variable {K : PySem.W.Frag} {ca : String → Addr} {F F1 F2 H H1 H2 : Hp} {m m1 m2 : List Addr} {A A1 A2 : Hs} {σ : L2.St} {env : Sl} {W : WX} {Q : VK}
variable {ta tb tc te to ti : TE} {a b c o : E} {i : Nat} {d : D} {ts : TA} {as : As} {x : V} {dx : D}
/-! ### methods of texts, one argument -/
/-! ### methods of dicts -/
def isDic (A : Hs) (x : D) : Bool := (dicAt A x).isSome
theorem isD_of (R : Rl K ca F m A H) (r : Rep K ca F m x dx) (h : isDic A dx = true) : ∃ a, x = .ref a ∧ L2.IsD H a := by
  unfold isDic dicAt at h
  cases r with
  | ref hm =>
    rename_i aa i
    simp only at h
    cases q : A[i]? with
    | none => simp [q] at h
    | some o =>
      cases o with
      | dic t lk l =>
        obtain ⟨a, e, ha, r⟩ := R.at q (.ref hm)
        cases e
        cases t with
        | false => obtain ⟨kvs, h1, _⟩ := r; exact ⟨aa, rfl, .inl ⟨kvs, rdK h1⟩⟩
        | true => obtain ⟨kvs, h1, _⟩ := r; exact ⟨aa, rfl, .inr ⟨kvs, rdK h1⟩⟩
      | lst _ => simp [q] at h
      | obj _ _ => simp [q] at h
  | _ => cases h
def getD (A : Hs) (x y z : D) : Option D := match dicAt A x with
  | some (t, l) => if keyOk t y then some ((kget l y).getD z) else none
  | none => none
def ofO {α : Type} (A : Hs) : Option α → RE α
  | some d => .ok d A
  | none => .stuck
/-- d.get(y, z) -/
def eGet2 (o i e : E) : E := fun env A => (o env A).bind fun x A1 => if isDic A1 x then (i env A1).bind fun y A2 => (e env A2).bind fun z A3 => ofO A3 (getD A3 x y z) else .stuck
/-! ### a dict of the written part -/
inductive TabOk (K : PySem.W.Frag) (w : World) (da : Addr) : List (String × Int) → Prop
  | nil : TabOk K w da []
  | cons {k : String} {k' : Str} {n : Int} {r : List (String × Int)} : k' = fS k → KDct K w da k' (.int n) → TabOk K w da r → TabOk K w da ((k, n) :: r)
theorem TabOk.of {w : World} {da : Addr} {tb : List (String × Int)} (h : TabOk K w da tb) {z : Str} {n : String × Int} (q : (tb.find? fun e => decide (fS e.1 = z)) = some n) : KDct K w da z (.int n.2) := by
  induction h with
  | nil => cases q
  | cons e h1 h2 ih =>
    rename_i k k' n' r
    rw [List.find?_cons] at q
    by_cases c : fS k = z
    · simp only [c, decide_true] at q
      cases q
      rw [← c, ← e]; exact h1
    · simp only [c, decide_false] at q
      exact ih q
end
end SM

namespace DL
open PySem L2
theorem room65w {k : Nat} {A : Around} (r : Room k A) : A.units + 1 < cLine := by have := r.un; omega
end DL
namespace SM
open PySem L2
open DL (Ex ExK)
/-- a written text -/
def dS (s : String) : D := .str (fS s)
section
variable {K : PySem.W.Frag} {ca : String → Addr} {F F1 F2 H H1 H2 : Hp} {m m1 m2 : List Addr} {A A1 A2 A3 : Hs} {σ : L2.St} {env : Sl} {W : WX} {Q : VK}
variable {ta tb tc te to ti tv : TE} {a b c o v : E} {i : Nat} {d : D} {ts : TA} {as : As} {x : V} {dx : D} {cs : List String}
theorem se_strS {x : Str} {s : String} (h : x = fS s) : SimE K ca W (tC (.str x)) (eC (dS s)) := se_c fun _ _ => by subst h; exact .str _
/-- xs or e, xs a list -/
def eOrL (a b : E) : E := fun env A => (a env A).bind fun x A1 => match seqL A1 x with
  | some l => if l.isEmpty then b env A1 else .ok x A1
  | none => .stuck
/-! ### {k: v, ..} -/
abbrev Dps := Sl → Hs → RE (List (D × D))
def dNil : Dps := fun _ A => .ok [] A
def dCons (k v : E) (r : Dps) : Dps := fun env A => (k env A).bind fun x A1 => (v env A1).bind fun y A2 => (r env A2).bind fun ps A3 => .ok ((x, y) :: ps) A3
def kmerge (l : List (D × D)) : List (D × D) → List (D × D)
  | [] => l
  | (k, v) :: r => kmerge (kput l k v) r
def eDisp (d : Dps) : E := fun env A => (d env A).bind fun ps A1 => if (ps.all fun p => (keyK p.1).isSome) && decide (ps.length ≤ 15) then alloc A1 (.dic false false (kmerge [] ps)) else .stuck
inductive RepP (K : PySem.W.Frag) (ca : String → Addr) (F : Hp) (m : List Addr) : List (V × V) → List (D × D) → Prop
  | nil : RepP K ca F m [] []
  | cons {x y : V} {d e : D} {r : List (V × V)} {s : List (D × D)} : Rep K ca F m x d → Rep K ca F m y e → RepP K ca F m r s → RepP K ca F m ((x, y) :: r) ((d, e) :: s)
abbrev SimP (K : PySem.W.Frag) (ca : String → Addr) (W : WX) (trs : List (TE × TE)) (f : Dps) : Prop := Sim K ca (RepP K ca) W (tPairs trs) f
theorem sd_nil : SimP K ca W [] dNil := fun F m A σ H env Q R S p => p [] F m H R Stp.refl .nil
theorem sd_cons {tk tv : TE} {r : List (TE × TE)} {k v : E} {d : Dps} (hk : SimE K ca W tk k) (hv : SimE K ca W tv v) (hr : SimP K ca W r d) : SimP K ca W ((tk, tv) :: r) (dCons k v d) := fun F m A σ H env Q R S p =>
  hk.bind R S p fun F1 m1 A1 H1 x dx R1 g1 S1 rx p1 => hv.bind R1 S1 p1 fun F2 m2 A2 H2 y dy R2 g2 S2 ry p2 => hr.bind R2 S2 p2 fun F3 m3 A3 H3 ps ds R3 g3 S3 rs p3 =>
    p3 _ F3 m3 H3 R3 Stp.refl (.cons (rx.mono (g2.trans g3).ff (g2.trans g3).mm) (ry.mono g3.ff g3.mm) rs)
theorem kmerge_rep : ∀ {more : List (Key × V)} {ps : List (D × D)} {kvs : List (Key × V)} {l : List (D × D)}, KvR K ca F m kD more ps → KvR K ca F m kD kvs l → KvR K ca F m kD (L2.mergeK kvs more) (kmerge l ps)
  | _, _, _, _, .nil, h => h
  | _ :: more, _ :: ps, kvs, l, .cons (k := k) (v := v) r1 r2, h => kmerge_rep (more := more) (ps := ps) (kvs := putK kvs k v) r2 (kput_rep keq_kD r1 h)
theorem repP_keys : ∀ {vs : List (V × V)} {ps : List (D × D)}, RepP K ca F m vs ps → (ps.all fun p => (keyK p.1).isSome) = true → ∃ kvs : List (Key × V), vs = kvs.map (fun kv => (kV kv.1, kv.2)) ∧ KvR K ca F m kD kvs ps
  | _, _, .nil, _ => ⟨[], rfl, .nil⟩
  | _, _, .cons (d := d) r1 r2 rs, h => by
    rw [List.all_cons, Bool.and_eq_true] at h
    obtain ⟨kvs, h1, h2⟩ := repP_keys rs h.2
    obtain ⟨k, hk⟩ := Option.isSome_iff_exists.mp h.1
    have e := keyK_kD hk
    have e : d = kD k := e
    subst e
    refine ⟨(k, _) :: kvs, ?_, .cons r2 h2⟩
    rw [List.map_cons, ← h1]
    cases k with
    | inl i => cases r1; rfl
    | inr x => cases r1; rfl
theorem se_disp {trs : List (TE × TE)} {d : Dps} (h : SimP K ca W trs d) : SimE K ca W (tDisp trs) (eDisp d) := fun F m A σ H env Q R S p q hq => by
  obtain ⟨R1, g1⟩ := R.newH (u := .dK []) hq
  refine h F m A σ _ env _ R1 (S.stp g1) ?_
  unfold eDisp at p
  cases z : d env A with
  | stuck => rw [z] at p; exact p
  | exc C A1 => rw [z] at p; exact fun F' m' H' R' g' => p F' m' H' R' (g1.trans g')
  | ok ps A1 =>
    rw [z] at p
    intro vs F2 m2 H2 R2 g2 rp
    simp only [RE.bind] at p
    split at p
    · rename_i hk
      rw [Bool.and_eq_true, decide_eq_true_eq] at hk
      obtain ⟨kvs, e1, h2⟩ := repP_keys rp hk.1
      have hD : H2 q = some (.dK []) := g2.kp q _ upd_same (R.out hq)
      refine ⟨hD, kvs, e1, by rw [h2.length]; exact hk.2, ?_⟩
      have nm : q ∉ m2 := fun z => by
        rcases g2.gm q z with y | y
        · exact R.out hq y
        · rw [upd_same] at y; cases y
      have nF : F2 q = none := by
        cases w : F2 q with
        | none => rfl
        | some _ =>
          rcases g2.gn q (by rw [w]; simp) with y | y
          · exact absurd (R.fh.back hq) y
          · rw [upd_same] at y; cases y
      have gA : Stp F m H F2 m2 H2 := g1.trans g2
      have R3 : Rl K ca F2 m2 A1 (upd H2 q (.dK (L2.mergeK [] kvs))) := ⟨R2.fh.right nF, R2.len, R2.nd, R2.fr, fun j o b h1 h2 => (R2.ob j o b h1 h2).mono (Ex.refl _) (Pre.refl _) fun w hw => by
        rw [upd_ne fun z => nm (by rw [← z]; exact List.mem_of_getElem? h2)]; exact hw⟩
      have R4 := R3.take (o := .dic false false (kmerge [] ps)) nm nF ⟨_, upd_same, (kmerge_rep h2 .nil).mono (Ex.refl _) ⟨_, rfl⟩⟩
      refine p (.ref q) F2 (m2 ++ [q]) _ R4 ⟨gA.ff, gA.mm.trans ⟨_, rfl⟩, fun b w hb n => ?_, gA.gn, fun b hb => ?_, fun b hb z => ?_, fun b od w hb => ?_⟩ (.ref (by rw [List.getElem?_append_right (by rw [R2.len]; exact Nat.le_refl _), R2.len]; simp))
      · rw [upd_ne fun z => by rw [z, hq] at hb; cases hb]; exact gA.kp b w hb n
      · rcases List.mem_append.mp hb with y | y
        · exact gA.gm b y
        · rw [List.mem_singleton] at y; rw [y]; exact .inr hq
      · by_cases w : b = q
        · rw [w] at hb; exact hb hq
        · rw [upd_ne w] at z; exact gA.th b hb z
      · rw [upd_ne fun z => by rw [z, hq] at hb; cases hb]; exact gA.fz b od w hb
    · exact p.elim
/-! ### op= -/
/-- += : ints, a list longer, a tuple and a tuple, texts -/
def rIAdd (K : PySem.W.Frag) : TIp := fun x y H Q => DL.ipAddT K x y H Q ∨ rAddS x y H Q
theorem ip_addA {X : Cx} {K : PySem.W.Frag} (e : X.K = K := by rfl) : PIp X .Add (rIAdd K) := by
  subst e
  intro pins s σ H x y v u Q I rx ry h
  rcases h with h | h
  · exact DL.ip_addT (X := X) rfl pins s σ H x y v u Q I rx ry h
  · exact in_addS pins s σ H x y v u Q I rx ry h
theorem ia_addA {X : Cx} {K : PySem.W.Frag} (e : X.K = K := by rfl) : InOp X .Add (rIAdd K) := ip_addA e
def oIAdd (x y : D) (A : Hs) : RE D := match x, y with
  | .int i, .int j => .ok (.int (i + j)) A
  | .str z, .str w => if z.length + w.length ≤ sizeLine then .ok (.str (z ++ w)) A else .stuck
  | .tup l, .tup k => if l ≠ [] ∧ l.length + k.length ≤ sizeLine then .ok (.tup (l ++ k)) A else .stuck
  | .ref i, .ref j => match A[i]?, A[j]? with
    | some (.lst l), some (.lst k) => if l.length + k.length ≤ sizeLine then .ok (.ref i) (A.set i (.lst (l ++ k))) else .stuck
    | _, _ => .stuck
  | _, _ => .stuck
theorem ips_add : IpS K ca (rIAdd K) oIAdd := fun F m A H x y dx dy W σ Q R rx ry p => by
  cases rx with
  | int i =>
    cases ry with
    | int j => exact .inl (.inl (.inl ⟨i, j, rfl, rfl, po_ok R (.int _) p⟩))
    | _ => exact p.elim
  | str z =>
    cases ry with
    | str w =>
      unfold oIAdd at p
      simp only at p
      split at p
      · rename_i hl; exact .inr ⟨z, w, rfl, rfl, hl, po_ok R (.str _) p⟩
      · exact p.elim
    | _ => exact p.elim
  | tup s rs =>
    cases ry with
    | tup s' rs' =>
      rename_i a vs l b ws k
      unfold oIAdd at p
      simp only at p
      split at p
      · rename_i hl
        refine .inl (.inr ⟨a, b, vs, ws, rfl, rfl, .inl (.inl (R.fh _ _ s)), .inl (.inl (R.fh _ _ s')), fun z => ?_, by rw [rs.length, rs'.length]; exact hl.2, fun e => ?_, fun _ q hq => ?_⟩)
        · subst z; cases rs; exact hl.1 rfl
        · subst e; cases rs'; rw [List.append_nil] at p; exact po_ok R (.tup s rs) p
        · obtain ⟨R2, g2⟩ := R.new (u := .tup (vs ++ ws)) hq
          exact p _ _ _ _ R2 g2 (.tup upd_same ((rs.append rs').mono g2.ff g2.mm))
      · exact p.elim
    | _ => exact p.elim
  | ref hm =>
    cases ry with
    | ref hm' =>
      rename_i a i b j
      unfold oIAdd at p
      simp only at p
      split at p
      · rename_i l k q1 q2
        split at p
        · rename_i hl
          obtain ⟨a', vs, e1, h1, h2, h3⟩ := lst_at R (.ref hm) q1
          obtain ⟨b', ws, e2, h4, h5, h6⟩ := lst_at R (.ref hm') q2
          rw [e1]
          exact .inl (.inl (.inr ⟨a', b', vs, ws, rfl, e2, h2, h5, by rw [h3.length, h6.length]; exact hl, po_put R h1 h2 (h3.append h6) (.ref h1) p⟩))
        · exact p.elim
      · exact p.elim
    | _ => exact p.elim
  | _ => exact p.elim
theorem ips_sub : IpS K ca (ipI fun i j => i - j) oSub := fun F m A H x y dx dy W σ Q R rx ry p => by
  cases rx with
  | int i =>
    cases ry with
    | int j => exact ⟨i, j, rfl, rfl, po_ok R (.int _) p⟩
    | _ => exact p.elim
  | _ => exact p.elim
theorem ia_subA {X : Cx} : InOp X .Sub (ipI fun i j => i - j) := fun pins s σ H x y u v Q I rx ry ⟨i, j, e1, e2, q⟩ => in_sub pins s σ H x y u v Q I rx ry ⟨i, j, e1, e2, q⟩
/-- o.f op= e -/
theorem ss_flaug {C : String} {r : TIp} {op : D → D → Hs → RE D} {f : String} {f' : Str} (hf : f' = fS f) (kc : NoF K ca [C] f') (hop : IpS K ca r op) (ho : SimE K ca W to o) (hv : SimE K ca W tv v) : SimS K ca W (sFldAug K to tv r f') (sFlAug [C] f op o v) := fun F m A σ H env Dn R S p =>
  ofE_bind ho R S p fun F1 m1 A1 H1 x dx R1 g1 S1 rx p1 => by
    cases q : getFld [C] f A1 dx with
    | none => simp only [q] at p1; exact p1.elim
    | some d =>
      simp only [q] at p1
      obtain ⟨a, Ca, dxx, kvs, w, hC, e, h1, h2, h3, h4, h5⟩ := getFld_at hf R1 rx kc q
      rw [List.mem_singleton] at hC
      subst hC
      refine ⟨a, _, dxx, kvs, w, e, h1, h2, h3, h4, ofE_bind hv R1 S1 p1 fun F2 m2 A2 H2 y dy R2 g2 S2 ry p2 => ?_⟩
      refine hop F2 m2 A2 H2 w y d dy W σ _ R2 (h5.mono g2.ff g2.mm) ry (po_ofE S2 p2 fun F3 m3 A3 H3 z dz R3 g3 S3 rz p3 => ?_)
      cases q2 : setFld [Ca] A3 dx f dz with
      | none => simp only [q2] at p3; exact p3.elim
      | some A4 =>
        simp only [q2] at p3
        obtain ⟨a2, Ca2, dx2, kvs2, hC2, e2, k1, k2, k3, k4, R4, g4⟩ := setFld_at hf R3 (rx.mono (g2.trans g3).ff (g2.trans g3).mm) rz kc q2
        rw [e] at e2; cases e2
        rw [List.mem_singleton] at hC2
        subst hC2
        exact ⟨dx2, kvs2, k1, by omega, p3 F3 m3 σ _ R4 g4 S3⟩
/-! ### d[k] op= e, xs[i] op= e -/
/-- a dict's item -/
def sDAugP (op : D → D → Hs → RE D) (o i a : E) : S := fun env A => ofE env (o env A) fun x A1 => ofE env (i env A1) fun y A2 => ofE env (oDGet x y A2) fun z A3 => ofE env (a env A3) fun v A4 => ofE env (op z v A4) fun r A5 => if isLst A5 x then .stuck else ofH env (setIt A5 x y r)
theorem oDGet_at {y : V} {dy d : D} (R : Rl K ca F m A H) (rx : Rep K ca F m x dx) (ry : Rep K ca F m y dy) (h : oDGet dx dy A = .ok d A1) : A1 = A ∧ ∃ a v, x = .ref a ∧ DGet H a y (some v) ∧ Rep K ca F m v d := by
  unfold oDGet at h
  cases hd : dicAt A dx with
  | none => simp [hd] at h
  | some tl =>
    obtain ⟨t, l⟩ := tl
    simp only [hd] at h
    split at h
    · rename_i hk
      cases hg : kget l dy with
      | none => simp [hg] at h
      | some dd =>
        simp only [hg] at h
        cases h
        obtain ⟨a, oo, e, h1, _, h2, h3⟩ := dic_get R rx ry hd hk
        obtain ⟨v, e2, rv⟩ := h2 _ hg
        subst e2
        exact ⟨rfl, a, v, e, h1, rv⟩
    · cases h
theorem oDGet_exc {dy : D} {C : String} (h : oDGet dx dy A = .exc C A1) : False := by
  unfold oDGet at h
  cases hd : dicAt A dx with
  | none => simp [hd] at h
  | some tl =>
    obtain ⟨t, l⟩ := tl
    simp only [hd] at h
    split at h
    · cases hg : kget l dy with
      | none => simp [hg] at h
      | some dd => simp [hg] at h
    · cases h
theorem ss_daug {r : TIp} {op : D → D → Hs → RE D} (hop : IpS K ca r op) (ho : SimE K ca W to o) (hi : SimE K ca W ti b) (hv : SimE K ca W tv v) : SimS K ca W (sDAug to ti tv r) (sDAugP op o b v) := fun F m A σ H env Dn R S p =>
  ofE_bind ho R S p fun F1 m1 A1 H1 x dx R1 g1 S1 rx p1 => ofE_bind hi R1 S1 p1 fun F2 m2 A2 H2 y dy R2 g2 S2 ry p2 => by
    have rx2 := rx.mono g2.ff g2.mm
    cases q : oDGet dx dy A2 with
    | stuck => rw [q] at p2; exact p2.elim
    | exc C A3 => exact (oDGet_exc q).elim
    | ok d A3 =>
      rw [q] at p2
      obtain ⟨e0, a, w, e, h1, rw_⟩ := oDGet_at R2 rx2 ry q
      subst e0
      refine ⟨a, w, e, h1, ofE_bind hv R2 S2 p2 fun F3 m3 A3 H3 z dz R3 g3 S3 rz p3 => ?_⟩
      refine hop F3 m3 A3 H3 w z d dz W σ _ R3 (rw_.mono g3.ff g3.mm) rz (po_ofE S3 p3 fun F4 m4 A4 H4 u du R4 g4 S4 ru p4 => ?_)
      split at p4
      · exact p4.elim
      · rename_i hl
        cases hs : setIt A4 dx dy du with
        | none => rw [hs] at p4; exact p4.elim
        | some A5 =>
          rw [hs] at p4
          obtain ⟨j, t, l, rfl, hA⟩ := setIt_dic hs (by simpa using hl)
          obtain ⟨a', H5, e2, h2, R5, g5⟩ := set_dic R4 (rx2.mono (g3.trans g4).ff (g3.trans g4).mm) (ry.mono (g3.trans g4).ff (g3.trans g4).mm) ru hA hs
          rw [e] at e2; cases e2
          exact ⟨H5, h2, p4 F4 m4 σ H5 R5 g5 (S4.stp g5)⟩
/-- a list's item, by a place from 0 on -/
def getN (A : Hs) (x y : D) : Option D := match seqL A x, y with
  | some l, .int i => if 0 ≤ i then l[i.toNat]? else none
  | _, _ => none
def sLAugP (op : D → D → Hs → RE D) (o i a : E) : S := fun env A => ofE env (o env A) fun x A1 => ofE env (i env A1) fun y A2 => match getN A2 x y with
  | some z => ofE env (a env A2) fun v A4 => ofE env (op z v A4) fun r A5 => if isLst A5 x then ofH env (setIt A5 x y r) else .stuck
  | none => .stuck
theorem ss_laug {r : TIp} {op : D → D → Hs → RE D} (hop : IpS K ca r op) (ho : SimE K ca W to o) (hi : SimE K ca W ti b) (hv : SimE K ca W tv v) : SimS K ca W (tAugS to ti tv (rGetN K) r rSetL) (sLAugP op o b v) := fun F m A σ H env Dn R S p =>
  ofE_bind ho R S p fun F1 m1 A1 H1 x dx R1 g1 S1 rx p1 => ofE_bind hi R1 S1 p1 fun F2 m2 A2 H2 y dy R2 g2 S2 ry p2 => by
    have rx2 := rx.mono g2.ff g2.mm
    cases q : getN A2 dx dy with
    | none => simp only [q] at p2; exact p2.elim
    | some d =>
      simp only [q] at p2
      unfold getN at q
      cases ql : seqL A2 dx with
      | none => simp [ql] at q
      | some l =>
        cases ry with
        | int j =>
          simp only [ql] at q
          split at q
          · rename_i hj
            obtain ⟨a, vs, e, h1, h2⟩ := seqL_at R2 rx2 ql
            obtain ⟨w, w1, w2⟩ := h2.get q
            refine ⟨a, vs, j.toNat, w, e, by rw [Int.toNat_of_nonneg hj], h1, w1, ofE_bind hv R2 S2 p2 fun F3 m3 A3 H3 z dz R3 g3 S3 rz p3 => ?_⟩
            refine hop F3 m3 A3 H3 w z d dz W σ _ R3 (w2.mono g3.ff g3.mm) rz (po_ofE S3 p3 fun F4 m4 A4 H4 u du R4 g4 S4 ru p4 => ?_)
            split at p4
            · rename_i hl
              cases hs : setIt A4 dx (.int j) du with
              | none => rw [hs] at p4; exact p4.elim
              | some A5 =>
                rw [hs] at p4
                obtain ⟨k, l2, rfl, hA⟩ := isLst_at (w := true) hl
                exact set_lst (Dn := Dn) R4 (rx2.mono (g3.trans g4).ff (g3.trans g4).mm) (.int j) ru hA hs fun H5 R5 g5 => p4 F4 m4 σ H5 R5 g5 (S4.stp g5)
            · exact p4.elim
          · cases q
        | _ => simp [ql] at q
/-! ### min of three -/
def c3 (f : D → D → D → Hs → RE D) : List D → Hs → RE D := fun ds A => match ds with
  | [d, e, g] => f d e g A
  | _ => .stuck
def oMin3 (x y z : D) (A : Hs) : RE D := match x, y, z with
  | .int i, .int j, .int k => .ok (.int (min (min i j) k)) A
  | _, _, _ => .stuck
theorem cs_min3 : CbS K ca (rNuC3 nuMin3) (c3 oMin3) := fun F m A H xs ds W σ Q R rs p => by
  unfold c3 at p
  split at p
  · rename_i d e g
    unfold oMin3 at p
    split at p
    · rename_i i j k
      cases rs with
      | cons r1 rs => cases rs with
        | cons r2 rs => cases rs with
          | cons r3 rs =>
            cases rs; cases r1; cases r2; cases r3
            refine ⟨.int i, .int j, .int k, .int (min (min i j) k), rfl, ?_, po_ok R (.int _) p⟩
            have h1 : ∀ i j : Int, nuMin2 (.int i) (.int j) = some (.int (min i j)) := fun i j => by
              show (some (decide (j < i))).map _ = _
              by_cases q : j < i
              · simp only [q, decide_true, Option.map, if_true, Option.some.injEq, V.int.injEq]; omega
              · simp only [q, decide_false, Option.map, Bool.false_eq_true, if_false, Option.some.injEq, V.int.injEq]; omega
            unfold nuMin3
            rw [h1]
            exact h1 _ _
    · exact p.elim
  · exact p.elim
end
theorem call_min3U {X : Cx} (hc : X.calm = true) : CallR X (.builtin "min") (rNuC3 nuMin3) := call_min3Nu hc
end SM

/-! ## equations for the plain functions -/
namespace SM
open PySem L2
section
variable {α β : Type} {A A1 A2 A3 : Hs} {env e1 e2 : Sl} {a b c o v : E} {as : As} {d d1 d2 x y z : D} {i j k n : Nat} {p q r : Int} {C : String} {f g : S} {F : Fn} {cs os xs : List String} {tb : List (String × String × Bool)} {l l1 l2 : List D} {fs : List (String × D)}
theorem z3p {x : α} {f : α → Hs → RE β} : (RE.ok x A).bind f = f x A := rfl
theorem z2o {f : α → Hs → RE β} : (RE.exc C A : RE α).bind f = .exc C A := rfl
theorem z0e {f : α → Hs → RE β} : (RE.stuck : RE α).bind f = .stuck := rfl
theorem z4v {x : α} : (RE.ok x A).noX = .ok x A := rfl
theorem z2y : (RE.exc C A : RE α).noX = .stuck := rfl
theorem z62 {e : Sl} : eVar 0 (some d :: e) A = .ok d A := rfl
theorem z60 {e : Sl} {s : Option D} : eVar (n + 1) (s :: e) A = eVar n e A := rfl
theorem eC_ : eC d env A = .ok d A := rfl
theorem z8m {o : D → D → Hs → RE D} : eOp o a b env A = (a env A).bind fun x A1 => (b env A1).bind fun y A2 => o x y A2 := rfl
theorem z8n {o : D → Hs → RE D} : eUn o a env A = (a env A).bind fun x A1 => o x A1 := rfl
theorem z7x : aNil env A = .ok [] A := rfl
theorem z4m : aCons a as env A = (a env A).bind fun x A1 => (as env A1).bind fun xs A2 => .ok (x :: xs) A2 := rfl
theorem z96 {f : List D → Hs → RE D} : eCB f as env A = (as env A).bind f := rfl
theorem z6d : eCall F as env A = (as env A).bind F := rfl
theorem z44 : eCall0 F as env A = (as env A).bind fun ds A1 => (F ds A1).noX := rfl
theorem c1_ {f : D → Hs → RE D} : c1 f [d] A = f d A := rfl
theorem c2_ {f : D → D → Hs → RE D} : c2 f [d, d1] A = f d d1 A := rfl
theorem c3_ {f : D → D → D → Hs → RE D} : c3 f [d, d1, d2] A = f d d1 d2 A := rfl
/-- a truth, or stuck -/
def bl_ {α : Type} (r : RE D) (k : Bool → Hs → RE α) : RE α := match r with
  | .ok (.bl c) A => k c A
  | .ok _ _ => .stuck
  | .exc C A => .exc C A
  | .stuck => .stuck
theorem z6h {c : Bool} {k : Bool → Hs → RE α} : bl_ (.ok (.bl c) A) k = k c A := rfl
theorem z5a {k : Bool → Hs → RE α} : bl_ (.exc C A) k = .exc C A := rfl
theorem z6j : eAnd a b env A = bl_ (a env A) fun c A1 => if c = true then b env A1 else .ok (.bl false) A1 := by
  unfold eAnd bl_ RE.bind
  cases a env A with
  | ok x A1 => cases x with
    | bl c => cases c <;> rfl
    | _ => rfl
  | _ => rfl
theorem z8s : eOr a b env A = bl_ (a env A) fun c A1 => if c = true then .ok (.bl true) A1 else b env A1 := by
  unfold eOr bl_ RE.bind
  cases a env A with
  | ok x A1 => cases x with
    | bl c => cases c <;> rfl
    | _ => rfl
  | _ => rfl
theorem z7c : eNot a env A = bl_ (a env A) fun c A1 => .ok (.bl (!c)) A1 := by
  unfold eNot bl_ RE.bind
  cases a env A with
  | ok x A1 => cases x <;> rfl
  | _ => rfl
theorem z8t {o o' : D → D → Hs → RE D} : eCh o o' a b c env A = (a env A).bind fun x A1 => (b env A1).bind fun y A2 => bl_ (o x y A2) fun k A3 => if k = true then (c env A3).bind fun w A4 => o' y w A4 else .ok (.bl false) A3 := by
  unfold eCh bl_ RE.bind
  cases a env A with
  | ok x A1 =>
    simp only
    cases b env A1 with
    | ok y A2 =>
      simp only
      cases o x y A2 with
      | ok z A3 => cases z with
        | bl k => cases k <;> rfl
        | _ => rfl
      | _ => rfl
    | _ => rfl
  | _ => rfl
theorem z8k : tOf a env A = bl_ (a env A) fun c A1 => .ok c A1 := by
  unfold tOf bl_ RE.bind
  cases a env A with
  | ok x A1 => cases x <;> rfl
  | _ => rfl
theorem z97 {s t : Tt} : tAn s t env A = (s env A).bind fun c A1 => if c = true then t env A1 else .ok false A1 := rfl
theorem z9l {s t : Tt} : tOo s t env A = (s env A).bind fun c A1 => if c = true then .ok true A1 else t env A1 := rfl
theorem z8v {s : Tt} : tNo s env A = (s env A).bind fun c A1 => .ok (!c) A1 := rfl
theorem z8z : tYe env A = .ok true A := rfl
theorem z9a {s : Tt} : eIf s a b env A = (s env A).bind fun c A1 => if c = true then a env A1 else b env A1 := rfl
theorem z74 : eTup as env A = (as env A).bind fun ds A1 => if ds.length ≤ sizeLine then .ok (.tup ds) A1 else .stuck := rfl
theorem z7g : eLst as env A = (as env A).bind fun ds A1 => if ds.length ≤ sizeLine then .ok (.ref A1.length) (A1 ++ [.lst ds]) else .stuck := rfl
theorem z0g {n : Nat} (h : n ≤ 16000000) : n ≤ sizeLine := by rw [sizeLine_eq]; omega
theorem small_line' {n : Nat} (h : n < 16000000) : n < sizeLine := by rw [sizeLine_eq]; omega
theorem z63 {t : Bool} : eDNew t env A = .ok (.ref A.length) (A ++ [.dic t false []]) := rfl
theorem z90 : oNo env A = .ok none A := rfl
def int_ {α : Type} (r : RE D) (k : Int → Hs → RE α) : RE α := match r with
  | .ok (.int c) A => k c A
  | .ok _ _ => .stuck
  | .exc C A => .exc C A
  | .stuck => .stuck
theorem z4o {c : Int} {k : Int → Hs → RE α} : int_ (.ok (.int c) A) k = k c A := rfl
theorem z9m : oSo a env A = int_ (a env A) fun c A1 => .ok (some c) A1 := by
  unfold oSo int_ RE.bind
  cases a env A with
  | ok x A1 => cases x <;> rfl
  | _ => rfl
theorem z8o {o : D → Option Int → Option Int → Hs → RE D} {lo hi : Sl → Hs → RE (Option Int)} : eSl o a lo hi env A = (a env A).bind fun x A1 => (lo env A1).bind fun l A2 => (hi env A2).bind fun h A3 => o x l h A3 := rfl
/-! statements -/
def seqR (r : RS) (b : S) : RS := match r with
  | .nx env' A' => b env' A'
  | r => r
theorem z7j : sSeq f g env A = seqR (f env A) g := rfl
theorem z65 : seqR (.nx env A) g = g env A := rfl
theorem z52 : seqR (.rt d A) g = .rt d A := rfl
theorem z3f : seqR (.exc C env A) g = .exc C env A := rfl
theorem z6a : seqR (.bk env A) g = .bk env A := rfl
theorem z5o : seqR (.ct env A) g = .ct env A := rfl
theorem z0w : seqR .stuck g = .stuck := rfl
theorem z8l : sNx env A = .nx env A := rfl
theorem z8d : sBk env A = .bk env A := rfl
theorem z98 : sCt env A = .ct env A := rfl
theorem z3w : sRaise C env A = .exc C env A := rfl
theorem z67 {k : D → Hs → RS} : ofE env (.ok d A) k = k d A := rfl
theorem z35 {k : D → Hs → RS} : ofE env (.exc C A) k = .exc C env A := rfl
theorem z57 {c : Bool} {k : Bool → Hs → RS} : ofT env (.ok c A) k = k c A := rfl
theorem z3e {k : Bool → Hs → RS} : ofT env (.exc C A) k = .exc C env A := rfl
theorem z4y : sDrop a env A = ofE env (a env A) fun _ A1 => .nx env A1 := rfl
theorem z7e : sRet a env A = ofE env (a env A) fun d A1 => .rt d A1 := rfl
theorem z56 : sRetN env A = .rt .non A := rfl
theorem z87 {t : Tt} : sIf t f g env A = ofT env (t env A) fun c A1 => if c = true then f env A1 else g env A1 := rfl
theorem z6s : sSet i a env A = ofE env (a env A) fun d A1 => .nx (env.set i (some d)) A1 := rfl
def ofS (r : Option Sl) (A : Hs) : RS := match r with
  | some env' => .nx env' A
  | none => .stuck
theorem z2c : ofS (some env) A = .nx env A := rfl
theorem z7o {g : G} : sAsg a g env A = ofE env (a env A) fun d A1 => ofS (g d env A1) A1 := by
  unfold sAsg ofS; rfl
theorem gN_ : gN i d env A = some (env.set i (some d)) := rfl
theorem z59 {gs : List G} : gT gs (.tup l) env A = gAll gs l env A := rfl
theorem z2b : gAll [] [] env A = some env := rfl
theorem z0y {g : G} {gs : List G} : gAll (g :: gs) (d :: l) env A = (g d env A).bind fun e => gAll gs l e A := by
  rw [gAll]; cases g d env A <;> rfl
def par_ (env : Sl) (i j : Nat) (r : RE (List D)) : RS := match r with
  | .ok [x, y] A1 => .nx ((env.set i (some x)).set j (some y)) A1
  | .exc C A1 => .exc C env A1
  | _ => .stuck
theorem z7t : sPar i j as env A = par_ env i j (as env A) := rfl
theorem z64 : par_ env i j (.ok [x, y] A) = .nx ((env.set i (some x)).set j (some y)) A := rfl
def var_ (env : Sl) (i : Nat) (k : D → RS) : RS := match env[i]? with
  | some (some x) => k x
  | _ => .stuck
theorem z6o {e : Sl} {k : D → RS} : var_ (some d :: e) 0 k = k d := rfl
theorem z6p {e : Sl} {s : Option D} {k : D → RS} : var_ (s :: e) (n + 1) k = var_ e n k := rfl
theorem z79 {o : D → D → Hs → RE D} : sAug i o a env A = var_ env i fun x => ofE env (a env A) fun y A1 => ofE env (o x y A1) fun z A2 => .nx (env.set i (some z)) A2 := rfl
def finR (r : RS) : RE D := match r with
    | .nx _ A' => .ok .non A'
    | .rt d A' => .ok d A'
    | .exc C _ A' => .exc C A'
    | _ => .stuck
theorem z68 : finR (.nx env A) = .ok .non A := rfl
theorem z5j : finR (.rt d A) = .ok d A := rfl
theorem z33 : finR (.exc C env A) = .exc C A := rfl
theorem z1m : finR .stuck = .stuck := rfl
theorem z6u (h : l.length = n) : mkFn n k f l A = finR (f (l.map some ++ List.replicate (k - n) none) A) := by
  unfold mkFn; rw [if_pos h]; unfold finR; rfl
theorem z6g {e : Sl} {s t : Option D} : List.set (s :: e) 0 t = t :: e := rfl
theorem z7y {e : Sl} {s t : Option D} : List.set (s :: e) (n + 1) t = s :: List.set e n t := rfl
/-! operators -/
theorem z51 : oAdd (.int p) (.int q) A = .ok (.int (p + q)) A := rfl
theorem z4i (h : l.length + l1.length ≤ 16000000) : oAdd (.tup l) (.tup l1) A = .ok (.tup (l ++ l1)) A := by
  unfold oAdd; simp only; rw [if_pos (z0g h)]
theorem z4j {s t : Str} (h : s.length + t.length ≤ 16000000) : oAdd (.str s) (.str t) A = .ok (.str (s ++ t)) A := by
  unfold oAdd; simp only; rw [if_pos (z0g h)]
theorem z4u : oSub (.int p) (.int q) A = .ok (.int (p - q)) A := rfl
theorem z5u (h : -18446744073709551616 < q ∧ q < 18446744073709551616) : oMul (.int p) (.int q) A = .ok (.int (p * q)) A := by
  unfold oMul; simp only; rw [if_pos (.inl (.inr ⟨by have := h.1; omega, by have := h.2; omega⟩))]
theorem z54 (h : -18446744073709551616 < p ∧ p < 18446744073709551616) : oMul (.int p) (.int q) A = .ok (.int (p * q)) A := by
  unfold oMul; simp only; rw [if_pos (.inl (.inl ⟨by have := h.1; omega, by have := h.2; omega⟩))]
theorem z4w (h : l.length ≤ 1000 ∧ -1000 ≤ q ∧ q ≤ 4000) : oMul (.tup l) (.int q) A = .ok (.tup (List.replicate q.toNat l).flatten) A := by
  unfold oMul; simp only; rw [if_pos h]
theorem log_small {q : Int} (h : 0 < q ∧ q < 18446744073709551616) : q.natAbs.log2 < 9000 := by
  have : q.natAbs < 2 ^ 64 := by omega
  by_cases z : q.natAbs = 0
  · rw [z]; decide
  · have := (Nat.log2_lt z).mpr this; omega
theorem z5m (h : 0 < q ∧ q < 18446744073709551616) : oDiv (.int p) (.int q) A = .ok (.int (p / q)) A := by
  unfold oDiv oII; simp only; rw [if_pos ⟨h.1, log_small h⟩]
theorem z4l (h : 0 < q) : oMod (.int p) (.int q) A = .ok (.int (p % q)) A := by
  unfold oMod oII; simp only; rw [if_pos h]
theorem z4r (h : 0 ≤ q ∧ q ≤ 1000000 ∧ p.natAbs < 18446744073709551616) : oPow (.int p) (.int q) A = .ok (.int (p ^ q.toNat)) A := by
  unfold oPow oII; simp only; rw [if_pos ⟨h.1, h.2.1, by have := h.2.2; omega⟩]
theorem z7p : oLt (.int p) (.int q) A = .ok (.bl (decide (p < q))) A := rfl
theorem z6i : oLe (.int p) (.int q) A = .ok (.bl (decide (p ≤ q))) A := rfl
theorem z81 : oGt (.int p) (.int q) A = .ok (.bl (decide (q < p))) A := rfl
theorem z80 : oGe (.int p) (.int q) A = .ok (.bl (decide (q ≤ p))) A := rfl
theorem z4n : oNeg (.int p) A = .ok (.int (-p)) A := rfl
theorem z2w : oMax2 (.int p) (.int q) A = .ok (.int (max p q)) A := by
  show RE.ok (D.int (if q > p then q else p)) A = _
  congr 2; omega
theorem z49 : oMin2 (.int p) (.int q) A = .ok (.int (min p q)) A := by
  show RE.ok (D.int (if q < p then q else p)) A = _
  congr 2; omega
theorem z36 : oMin3 (.int p) (.int q) (.int r) A = .ok (.int (min (min p q) r)) A := rfl
theorem z4k : oInt (.int p) A = .ok (.int p) A := rfl
theorem z5s {b : Bool} : oInt (.bl b) A = .ok (.int (if b then 1 else 0)) A := rfl
theorem z76 : oEq (.int p) (.int q) A = .ok (.bl (decide (p = q))) A := by
  unfold oEq oB eqA; simp [pyA, PyData.eqv]; rfl
theorem z6x : oNe (.int p) (.int q) A = .ok (.bl (!decide (p = q))) A := by
  unfold oNe oB eqA; simp [pyA, PyData.eqv]; rfl
theorem z37 {s t : Str} : oEq (.str s) (.str t) A = .ok (.bl (decide (s = t))) A := by
  unfold oEq oB eqA; simp [pyA, PyData.eqv]; rfl
theorem z4b {s t : Str} : oNe (.str s) (.str t) A = .ok (.bl (!decide (s = t))) A := by
  unfold oNe oB eqA; simp [pyA, PyData.eqv]; rfl
theorem z7i {s t : String} : oEq (dS s) (dS t) A = .ok (.bl (decide (s = t))) A := by
  unfold dS; rw [z37]; congr 3; exact propext fS_inj
theorem z6k {s t : String} : oNe (dS s) (dS t) A = .ok (.bl (!decide (s = t))) A := by
  unfold dS; rw [z4b]; congr 4; exact propext fS_inj
theorem eqA_of {b : Bool} (h : eqA A x y = some b) : oEq x y A = .ok (.bl b) A := by unfold oEq oB; rw [h]
theorem neA_of {b : Bool} (h : eqA A x y = some b) : oNe x y A = .ok (.bl (!b)) A := by unfold oNe oB; simp only [h]; rfl
theorem z2v : oIs x .non A = .ok (.bl (isNon x)) A := rfl
theorem z0i : oIsNot x .non A = .ok (.bl (!isNon x)) A := rfl
theorem z5h {b c : Bool} : oIs (.bl b) (.bl c) A = .ok (.bl (decide (b = c))) A := rfl
theorem z16 {b c : Bool} : oIsNot (.bl b) (.bl c) A = .ok (.bl (!decide (b = c))) A := rfl
theorem z15 : isNon .non = true := rfl
theorem z1i : isNon (.int p) = false := rfl
theorem z21 {b : Bool} : isNon (.bl b) = false := rfl
theorem z0v : isNon (.ref i) = false := rfl
theorem z11 : isNon (.tup l) = false := rfl
theorem z17 {s : Str} : isNon (.str s) = false := rfl
theorem z27 {s : String} : isNon (dS s) = false := rfl
theorem z1e : isNon (.exc C) = false := rfl
theorem z12 : oIsi os xs tb (.int p) (.ty "int") A = .ok (.bl true) A := rfl
theorem z0j : oIsi os xs tb (.int p) (.ty "bool") A = .ok (.bl false) A := rfl
theorem z19 {b : Bool} : oIsi os xs tb (.bl b) (.ty "int") A = .ok (.bl true) A := rfl
theorem z08 {b : Bool} : oIsi os xs tb (.bl b) (.ty "bool") A = .ok (.bl true) A := rfl
theorem z0p : oIsi os xs tb .non (.ty "int") A = .ok (.bl false) A := rfl
theorem z0d : oIsi os xs tb .non (.ty "bool") A = .ok (.bl false) A := rfl
theorem z1a : oIsi os xs tb .non (.ty "str") A = .ok (.bl false) A := rfl
theorem z03 : oIsi os xs tb .non (.ty "tuple") A = .ok (.bl false) A := rfl
theorem z0h : oIsi os xs tb .non (.ty "list") A = .ok (.bl false) A := rfl
theorem z1h {s : Str} : oIsi os xs tb (.str s) (.ty "int") A = .ok (.bl false) A := rfl
theorem z0c {s : Str} : oIsi os xs tb (.str s) (.ty "bool") A = .ok (.bl false) A := rfl
theorem z0z {s : Str} : oIsi os xs tb (.str s) (.ty "str") A = .ok (.bl true) A := rfl
theorem z04 {s : Str} : oIsi os xs tb (.str s) (.ty "tuple") A = .ok (.bl false) A := rfl
theorem z0s : oIsi os xs tb (.tup l) (.ty "int") A = .ok (.bl false) A := rfl
theorem z0k : oIsi os xs tb (.tup l) (.ty "bool") A = .ok (.bl false) A := rfl
theorem z01 : oIsi os xs tb (.tup l) (.ty "tuple") A = .ok (.bl true) A := rfl
theorem z0l : oIsi os xs tb (.tup l) (.ty "list") A = .ok (.bl false) A := rfl
theorem z10 : oIsi os xs tb (.tup l) (.ty "str") A = .ok (.bl false) A := rfl
theorem z07 : oIsi os xs tb (.int p) (.ty "tuple") A = .ok (.bl false) A := rfl
theorem z1l : oIsi os xs tb (.int p) (.ty "str") A = .ok (.bl false) A := rfl
theorem z0m : oIsi os xs tb (.int p) (.ty "list") A = .ok (.bl false) A := rfl
theorem z02 {b : Bool} : oIsi os xs tb (.bl b) (.ty "tuple") A = .ok (.bl false) A := rfl
theorem z1d {b : Bool} : oIsi os xs tb (.bl b) (.ty "str") A = .ok (.bl false) A := rfl
/-! the heap -/
theorem z2p : seqL A (.scr l) = some l := rfl
theorem z2j : seqL A (.tup l) = none := rfl
theorem z1o {s : Str} : seqL A (.str s) = none := rfl
theorem z5v : oLen (.tup l) A = .ok (.int l.length) A := rfl
theorem z50 {s : Str} (h : s.length ≤ 16000000) : oLen (.str s) A = .ok (.int s.length) A := by
  unfold oLen lenA; simp only [seqL, seqT]; rw [if_pos (z0g h)]
theorem z24 : oTuple (.tup l) A = .ok (.tup l) A := rfl
theorem z3a : oList (.tup l) A = .ok (.ref A.length) (A ++ [.lst l]) := rfl
theorem z6f {lo hi : Option Int} : oSl (.tup l) lo hi A = .ok (.tup (cutD l lo hi)) A := rfl
def fld_ (r : Option D) (A : Hs) : RE D := match r with
  | some d => .ok d A
  | none => .stuck
theorem z2e : fld_ (some d) A = .ok d A := rfl
theorem z77 {f : String} : eFld cs f a env A = (a env A).bind fun x A1 => fld_ (getFld cs f A1 x) A1 := rfl
theorem z9e {f : String} : sFl cs f o a env A = ofE env (a env A) fun d A1 => ofE env (o env A1) fun x A2 => ofH env (setFld cs A2 x f d) := by
  unfold sFl ofH; rfl
theorem z2g : ofH env (some A) = .nx env A := rfl
theorem z3r {f : String} {op : D → D → Hs → RE D} : sFlAug cs f op o a env A = ofE env (o env A) fun x A1 => ofE env (fld_ (getFld cs f A1 x) A1) fun v A1 => ofE env (a env A1) fun y A2 => ofE env (op v y A2) fun z A3 => ofH env (setFld cs A3 x f z) := by
  unfold sFlAug ofH
  congr
  funext x A1
  cases getFld cs f A1 x <;> rfl
theorem z2d {f : String} : putF f d [] = [(f, d)] := rfl
theorem z0x {f g : String} : putF f d ((g, x) :: fs) = if g = f then (g, d) :: fs else (g, x) :: putF f d fs := rfl
theorem z3q : oIAdd (.int p) (.int q) A = .ok (.int (p + q)) A := rfl
def meth_ (r : Option Fn) (k : Fn → RE D) : RE D := match r with
  | some f => k f
  | none => .stuck
theorem z1k {k : Fn → RE D} : meth_ (some F) k = k F := rfl
theorem z66 {m : String} {t : List (String × Fn)} : eMeth m t o as env A = (o env A).bind fun x A1 => meth_ (methOf m t A1 x) fun f => (as env A1).bind fun ds A2 => f (x :: ds) A2 := by
  unfold eMeth meth_; rfl
theorem z3l {m : String} {t : List (String × Fn)} : eMeth0 m t o as env A = (o env A).bind fun x A1 => meth_ (methOf m t A1 x) fun f => (as env A1).bind fun ds A2 => (f (x :: ds) A2).noX := by
  unfold eMeth0 meth_; rfl
theorem make_ok {ds : List D} (h : F (.ref A.length :: ds) (A ++ [.obj C []]) = .ok .non A1) : make C F ds A = .ok (.ref A.length) A1 := by unfold make; rw [h]
theorem z4t : eMake C F as env A = (as env A).bind fun ds A1 => make C F ds A1 := rfl
theorem z39 : eMake0 C F as env A = (as env A).bind fun ds A1 => (make C F ds A1).noX := rfl
theorem z6y : sPut o b a env A = ofE env (a env A) fun v A1 => ofE env (o env A1) fun x A2 => ofE env (b env A2) fun y A3 => ofH env (setIt A3 x y v) := rfl
theorem z3n {s : String} : keyOk false (dS s) = true := rfl
theorem z3d : keyOk false (.int p) = true := rfl
theorem z5c {s t : String} : keq (dS s) (dS t) = decide (s = t) := by
  show decide (fS s = fS t) = decide (s = t)
  simp only [fS_inj]
theorem z5e : keq (.int p) (.int q) = decide (p = q) := rfl
def augL_ (env : Sl) (r : Option D) (k : D → RS) : RS := match r with
  | some z => k z
  | none => .stuck
theorem z0r {k : D → RS} : augL_ env (some d) k = k d := rfl
theorem z3y {op : D → D → Hs → RE D} : sLAugP op o b a env A = ofE env (o env A) fun x A1 => ofE env (b env A1) fun y A2 => augL_ env (getN A2 x y) fun z => ofE env (a env A2) fun v A4 => ofE env (op z v A4) fun r A5 => if isLst A5 x then ofH env (setIt A5 x y r) else .stuck := by
  unfold sLAugP augL_; rfl
theorem z3o {op : D → D → Hs → RE D} : sDAugP op o b a env A = ofE env (o env A) fun x A1 => ofE env (b env A1) fun y A2 => ofE env (oDGet x y A2) fun z A3 => ofE env (a env A3) fun v A4 => ofE env (op z v A4) fun r A5 => if isLst A5 x then .stuck else ofH env (setIt A5 x y r) := rfl
/-! methods of lists -/
theorem z8b {o : D → List D → Hs → RE D} : eBL o a as env A = (a env A).bind fun x A1 => if (seqL A1 x).isSome then (as env A1).bind fun ds A2 => o x ds A2 else .stuck := rfl
theorem z84 {o : D → Hs → RE D} : eBL0 o a env A = (a env A).bind fun x A1 => if (seqL A1 x).isSome then o x A1 else .stuck := rfl
/-! walks -/
def ofW (env : Sl) (r : RE Wk) (k : Wk → Hs → RS) : RS := match r with
  | .ok w A => k w A
  | .exc C A => .exc C env A
  | .stuck => .stuck
theorem z5b {w : Wk} {k : Wk → Hs → RS} : ofW env (.ok w A) k = k w A := rfl
theorem z6l {w : Sl → Hs → RE Wk} {g : G} : sFor w g f env A = ofW env (w env A) fun k A1 => forL g f k.gd k.ds env A1 := by unfold sFor ofW; rfl
def wk_ (r : Option Wk) (A : Hs) : RE Wk := match r with
  | some k => .ok k A
  | none => .stuck
theorem z3u {w : Wk} : wk_ (some w) A = .ok w A := rfl
theorem z8a {f : Hs → D → Option Wk} : wOf f a env A = (a env A).bind fun x A1 => wk_ (f A1 x) A1 := by unfold wOf wk_; rfl
theorem z7f : wSeq a env A = (a env A).bind fun x A1 => wk_ (wkA A1 x) A1 := z8a
theorem z9d {f : List D → Option Wk} : wAs f as env A = (as env A).bind fun x A1 => wk_ (f x) A1 := by unfold wAs wk_; rfl
theorem z4h : wkA A (.tup l) = some ⟨l, tt⟩ := rfl
theorem z30 : wkA A (.scr l) = some ⟨l, tt⟩ := rfl
theorem z2z : wkE A (.scr l) = some ⟨enumL l, tt⟩ := rfl
theorem z8w (h : -4611686018427387904 ≤ p ∧ p < 4611686018427387904) : rg1 [.int p] = some ⟨rgL 0 1 p.toNat, tt⟩ := by
  unfold rg1; simp only; rw [if_pos ⟨by have := h.1; omega, by have := h.2; omega⟩]
theorem z9k (h : -4611686018427387904 ≤ p ∧ p < 4611686018427387904 ∧ -4611686018427387904 ≤ q ∧ q < 4611686018427387904) : rg2 [.int p, .int q] = some ⟨rgL p 1 (q - p).toNat, tt⟩ := by
  unfold rg2; simp only; rw [if_pos ⟨⟨by have := h.1; omega, by have := h.2.1; omega⟩, ⟨by have := h.2.2.1; omega, by have := h.2.2.2; omega⟩⟩]
theorem z8y (h : -1152921504606846976 ≤ p ∧ p < 1152921504606846976 ∧ -1152921504606846976 ≤ q ∧ q < 1152921504606846976 ∧ 0 < r ∧ r < 1000000) : rg3 [.int p, .int q, .int r] = some ⟨rgL p r (cnt p q r), tt⟩ := by
  unfold rg3; simp only; rw [if_pos ⟨by have := h.1; omega, by have := h.2.1; omega, by have := h.2.2.1; omega, by have := h.2.2.2.1; omega, h.2.2.2.2.1, h.2.2.2.2.2⟩]
theorem forL_nil {g : G} {gd : Hs → Prop} (h : gd A) : forL g f gd [] env A = .nx env A := by unfold forL; rw [if_pos h]
def turnR (r : RS) (k : S) : RS := match r with
  | .nx e A => k e A
  | .ct e A => k e A
  | .bk e A => .nx e A
  | r => r
theorem z2x {k : S} : turnR (.nx env A) k = k env A := rfl
theorem z41 {k : S} : turnR (.ct env A) k = k env A := rfl
theorem z3b {k : S} : turnR (.rt d A) k = .rt d A := rfl
theorem z34 {k : S} : turnR (.bk env A) k = .nx env A := rfl
theorem z1y {k : S} : turnR (.exc C env A) k = .exc C env A := rfl
theorem forL_cons {g : G} {gd : Hs → Prop} (h : gd A) (hg : g d env A = some e1) : forL g f gd (d :: l) env A = turnR (f e1 A) (forL g f gd l) := by
  rw [forL]; rw [if_pos h, hg]; rfl
/-- a for by what stays true -/
theorem for_inv {g : G} {gd : Hs → Prop} (I : Nat → Sl → Hs → Prop) (R : RS → Prop) {ds : List D} (h0 : I 0 env A) (hg : ∀ i e A, i ≤ ds.length → I i e A → gd A)
    (hs : ∀ i e A d, ds[i]? = some d → I i e A → ∃ e1, g d e A = some e1 ∧ ((∃ e2 A2, (f e1 A = .nx e2 A2 ∨ f e1 A = .ct e2 A2) ∧ I (i + 1) e2 A2) ∨ (∃ d2 A2, f e1 A = .rt d2 A2 ∧ R (.rt d2 A2)) ∨ (∃ e2 A2, f e1 A = .bk e2 A2 ∧ R (.nx e2 A2)) ∨ (∃ C e2 A2, f e1 A = .exc C e2 A2 ∧ R (.exc C e2 A2))))
    (hd : ∀ e A, I ds.length e A → R (.nx e A)) : R (forL g f gd ds env A) := by
  have main : ∀ (m : Nat) (e : Sl) (A : Hs), m ≤ ds.length → I m e A → R (forL g f gd (ds.drop m) e A) := by
    intro m
    generalize hk : ds.length - m = k
    induction k generalizing m with
    | zero =>
      intro e A hm hI
      have : m = ds.length := by omega
      subst this
      rw [List.drop_length, forL_nil (hg _ _ _ hm hI)]
      exact hd e A hI
    | succ k ih =>
      intro e A hm hI
      have hlt : m < ds.length := by omega
      rw [List.drop_eq_getElem_cons hlt]
      obtain ⟨e1, h1, h2⟩ := hs m e A ds[m] (by simp [hlt]) hI
      rw [forL_cons (hg _ _ _ hm hI) h1]
      rcases h2 with ⟨e2, A2, h2, h3⟩ | ⟨d2, A2, h2, h3⟩ | ⟨e2, A2, h2, h3⟩ | ⟨C, e2, A2, h2, h3⟩
      · rcases h2 with h2 | h2
        · rw [h2, z2x]; exact ih (m + 1) (by omega) e2 A2 (by omega) h3
        · rw [h2, z41]; exact ih (m + 1) (by omega) e2 A2 (by omega) h3
      · rw [h2]; exact h3
      · rw [h2]; exact h3
      · rw [h2]; exact h3
  have := main 0 env A (Nat.zero_le _) h0
  rwa [List.drop_zero] at this
/-- a while by what stays true and a number that falls -/
theorem wh_inv {t : Tt} (I : Nat → Sl → Hs → Prop) (R : RS → Prop) {n : Nat} (h0 : I n env A)
    (hs : ∀ n e A, I n e A → (∃ A1, t e A = .ok false A1 ∧ R (.nx e A1)) ∨ (∃ A1, t e A = .ok true A1 ∧ ((∃ e2 A2, (f e A1 = .nx e2 A2 ∨ f e A1 = .ct e2 A2) ∧ ∃ m, m < n ∧ I m e2 A2) ∨ (∃ d2 A2, f e A1 = .rt d2 A2 ∧ R (.rt d2 A2)) ∨ (∃ e2 A2, f e A1 = .bk e2 A2 ∧ R (.nx e2 A2)) ∨ (∃ C e2 A2, f e A1 = .exc C e2 A2 ∧ R (.exc C e2 A2))))) : R (sWh t f env A) := by
  induction n using Nat.strongRecOn generalizing env A with
  | _ n ih =>
    rw [sWh_turn]
    rcases hs n env A h0 with ⟨A1, h1, h2⟩ | ⟨A1, h1, h2⟩
    · rw [h1]; exact h2
    · rw [h1]
      simp only [ofT, if_true]
      rcases h2 with ⟨e2, A2, h2, m, hm, h3⟩ | ⟨d2, A2, h2, h3⟩ | ⟨e2, A2, h2, h3⟩ | ⟨C, e2, A2, h2, h3⟩
      · rcases h2 with h2 | h2
        · rw [h2]; exact ih m hm h3
        · rw [h2]; exact ih m hm h3
      · rw [h2]; exact h3
      · rw [h2]; exact h3
      · rw [h2]; exact h3
def lc_ (r : RE (List D)) : RE D := match r with
  | .ok l A2 => alloc A2 (.lst l)
  | _ => .stuck
theorem z7l : lc_ (.ok l A) = .ok (.ref A.length) (A ++ [.lst l]) := rfl
theorem z88 {w : Sl → Hs → RE Wk} {g : G} {t : Tt} {vs : List Nat} : eLc w g t a vs env A = (w env A).bind fun k A1 => lc_ (lcL g t a k.gd (wipeS env vs) k.ds [] A1) := by unfold eLc lc_; rfl
/-- a comprehension whose parts leave the heap as it is -/
theorem lc_pure {g : G} {t : Tt} {gd : Hs → Prop} (p : D → Bool) (h : D → D) {ds acc : List D} (hgd : gd A) (hl : acc.length + ds.length < 16000000)
    (hs : ∀ d ∈ ds, ∃ e1, g d env A = some e1 ∧ t e1 A = .ok (p d) A ∧ (p d = true → a e1 A = .ok (h d) A)) : lcL g t a gd env ds acc A = .ok (acc ++ (ds.filter p).map h) A := by
  induction ds generalizing acc with
  | nil => rw [lcL, if_pos hgd]; simp
  | cons d ds ih =>
    obtain ⟨e1, h1, h2, h3⟩ := hs d List.mem_cons_self
    rw [lcL, if_pos hgd, h1]
    simp only [h2]
    cases q : p d with
    | false =>
      simp only
      rw [ih (by rw [List.length_cons] at hl; omega) fun d' hd => hs d' (List.mem_cons_of_mem _ hd), List.filter_cons, q]
      rfl
    | true =>
      simp only [h3 q]
      rw [if_pos (small_line' (by rw [List.length_cons] at hl; omega)), ih (by rw [List.length_cons] at hl; rw [List.length_append, List.length_singleton]; omega) fun d' hd => hs d' (List.mem_cons_of_mem _ hd), List.filter_cons, q]
      simp
end
end SM

/-! ## frames, equal data, slices -/
namespace SM
open PySem L2
section
variable {α β : Type} {A A1 A2 A3 : Hs} {env e1 e2 : Sl} {a b c o v : E} {as : As} {d d1 d2 x y z : D} {i j k n : Nat} {p q r : Int} {C : String} {f g : S} {F : Fn} {cs os xs : List String} {tb : List (String × String × Bool)} {l l1 l2 : List D} {fs : List (String × D)} {s s1 s2 : List Nat} {u u1 u2 : O}
/-- what a piece of code leaves alone -/
def Fr (s : List Nat) (A A1 : Hs) : Prop := A.length ≤ A1.length ∧ ∀ j, j < A.length → j ∉ s → A1[j]? = A[j]?
theorem Fr.refl : Fr s A A := ⟨Nat.le_refl _, fun _ _ _ => rfl⟩
theorem Fr.trans (h : Fr s A A1) (k : Fr s A1 A2) : Fr s A A2 := ⟨Nat.le_trans h.1 k.1, fun j hj hn => (k.2 j (Nat.lt_of_lt_of_le hj h.1) hn).trans (h.2 j hj hn)⟩
/-- the second may also touch what is new -/
theorem Fr.trans' (h : Fr s A A1) (k : Fr s2 A1 A2) (hs : ∀ j ∈ s2, j ∈ s ∨ A.length ≤ j) : Fr s A A2 := ⟨Nat.le_trans h.1 k.1, fun j hj hn => (k.2 j (Nat.lt_of_lt_of_le hj h.1) fun h3 => (hs j h3).elim hn fun h4 => by omega).trans (h.2 j hj hn)⟩
theorem Fr.mono (h : Fr s A A1) (hs : ∀ j ∈ s, j ∈ s2) : Fr s2 A A1 := ⟨h.1, fun j hj hn => h.2 j hj fun h3 => hn (hs j h3)⟩
theorem lt_of_get {α : Type} {A : List α} {u : α} (h : A[i]? = some u) : i < A.length := by
  rcases Nat.lt_or_ge i A.length with h1 | h1
  · exact h1
  · rw [List.getElem?_eq_none h1] at h; cases h
theorem Fr.get (h : Fr s A A1) (g : A[j]? = some u) (hn : j ∉ s) : A1[j]? = some u := (h.2 j (lt_of_get g) hn).trans g
theorem Fr.le (h : Fr s A A1) : A.length ≤ A1.length := h.1
theorem Fr.set (h : i ∈ s) : Fr s A (A.set i u) := ⟨by simp, fun j hj hn => List.getElem?_set_ne fun (e : i = j) => hn (e ▸ h)⟩
theorem Fr.push : Fr s A (A ++ [u]) := ⟨by simp, fun j hj hn => by rw [List.getElem?_append_left hj]⟩
theorem Fr.then_set (h : Fr s A A1) (hi : i ∈ s ∨ A.length ≤ i) : Fr s A (A1.set i u) := ⟨by simpa using h.1, fun j hj hn => by
  rw [List.getElem?_set_ne fun (e : i = j) => hi.elim (fun h2 => hn (e ▸ h2)) fun h2 => by omega]
  exact h.2 j hj hn⟩
theorem Fr.then_push (h : Fr s A A1) : Fr s A (A1 ++ [u]) := h.trans .push
theorem get_set (h : A[i]? = some u1) : (A.set i u)[i]? = some u := List.getElem?_set_self (lt_of_get h)
theorem get_set_ne (hn : i ≠ j) (h : A[j]? = some u1) : (A.set i u)[j]? = some u1 := (List.getElem?_set_ne hn).trans h
theorem get_push (h : A[j]? = some u1) : (A ++ [u])[j]? = some u1 := (List.getElem?_append_left (lt_of_get h)).trans h
theorem z23 : (A.set i u).set i u1 = A.set i u1 := List.set_set ..
theorem ne_new (h : A[j]? = some u) : j ≠ A.length := fun e => by have := lt_of_get h; omega
theorem z40 : (A.set i u).length = A.length := by simp
/-! data without a heap -/
def pd : Nat → D → Bool
  | _, .non => true
  | _, .bl _ => true
  | _, .int _ => true
  | _, .str _ => true
  | n + 1, .tup l => l.all (pd n)
  | n + 1, .scr l => l.all (pd n)
  | n + 1, .wt l => l.all (pd n)
  | _, _ => false
theorem pd_int : pd n (.int p) = true := by cases n <;> rfl
theorem pd_dS {s : String} : pd n (dS s) = true := by cases n <;> rfl
theorem pd_tup : pd (n + 1) (.tup l) = l.all (pd n) := rfl
theorem pd_py : ∀ {n : Nat} {d : D}, pd n d = true → ∃ p, p.plain = true ∧ ∀ A, pyA A n d = some p := by
  intro n
  induction n with
  | zero =>
    intro d h
    cases d with
    | non => exact ⟨.none, rfl, fun A => by simp [pyA]⟩
    | bl b => exact ⟨.bool b, rfl, fun A => by simp [pyA]⟩
    | int b => exact ⟨.int b, rfl, fun A => by simp [pyA]⟩
    | str b => exact ⟨.str b, rfl, fun A => by simp [pyA]⟩
    | _ => cases h
  | succ n ih =>
    have all : ∀ {l : List D}, l.all (pd n) = true → ∃ ps, PyData.plainAll ps = true ∧ ∀ A, allSome (l.map (pyA A n)) = some ps := by
      intro l
      induction l with
      | nil => intro _; exact ⟨[], rfl, fun A => rfl⟩
      | cons d l il =>
        intro h
        rw [List.all_cons, Bool.and_eq_true] at h
        obtain ⟨p, h0, h1⟩ := ih h.1
        obtain ⟨ps, h2, h3⟩ := il h.2
        refine ⟨p :: ps, by simp [PyData.plainAll, h0, h2], fun A => ?_⟩
        rw [List.map_cons, h1 A, allSome, h3 A]; rfl
    intro d h
    cases d with
    | tup l =>
      obtain ⟨ps, h1, h2⟩ := all h
      exact ⟨.tuple ps, by simpa [PyData.plain] using h1, fun A => by rw [pyA, h2 A]; rfl⟩
    | wt l =>
      obtain ⟨ps, h1, h2⟩ := all h
      exact ⟨.tuple ps, by simpa [PyData.plain] using h1, fun A => by rw [pyA, h2 A]; rfl⟩
    | scr l =>
      obtain ⟨ps, h1, h2⟩ := all h
      exact ⟨.list ps, by simpa [PyData.plain] using h1, fun A => by rw [pyA, h2 A]; rfl⟩
    | non => exact ⟨.none, rfl, fun A => by simp [pyA]⟩
    | bl b => exact ⟨.bool b, rfl, fun A => by simp [pyA]⟩
    | int b => exact ⟨.int b, rfl, fun A => by simp [pyA]⟩
    | str b => exact ⟨.str b, rfl, fun A => by simp [pyA]⟩
    | _ => cases h
theorem pd_all : ∀ {l : List D}, l.all (pd n) = true → ∃ ps, PyData.plainAll ps = true ∧ ∀ A, allSome (l.map (pyA A n)) = some ps := by
  intro l
  induction l with
  | nil => intro _; exact ⟨[], rfl, fun A => rfl⟩
  | cons d l il =>
    intro h
    rw [List.all_cons, Bool.and_eq_true] at h
    obtain ⟨p, h0, h1⟩ := pd_py h.1
    obtain ⟨ps, h2, h3⟩ := il h.2
    refine ⟨p :: ps, by simp [PyData.plainAll, h0, h2], fun A => ?_⟩
    rw [List.map_cons, h1 A, allSome, h3 A]; rfl
/-- two values that read the same -/
theorem eqA_same {P : PyData} (hp : P.plain = true) (h : pyA A 40 x = some P) (k : pyA A 40 y = some P) : eqA A x y = some true := by
  unfold eqA; rw [h, k]; simp only; rw [PySem.SeqAt.eqv_refl_plain _ hp]
theorem eqA_pd (h : pd 40 x = true) : eqA A x x = some true := by
  obtain ⟨P, h1, h2⟩ := pd_py h
  exact eqA_same h1 (h2 A) (h2 A)
theorem py_lst (h : A[i]? = some (.lst l)) : pyA A (n + 1) (.ref i) = (allSome (l.map (pyA A n))).map .list := by
  rw [pyA]; simp only [h]
theorem eqA_lst (h : A[i]? = some (.lst l)) (k : A[j]? = some (.lst l)) (hp : l.all (pd 39) = true) : eqA A (.ref i) (.ref j) = some true := by
  obtain ⟨ps, h1, h2⟩ := pd_all hp
  refine eqA_same (P := .list ps) (by simpa [PyData.plain] using h1) ?_ ?_
  · rw [py_lst h, h2 A]; rfl
  · rw [py_lst k, h2 A]; rfl
theorem oEq_pd (h : pd 40 x = true) : oEq x x A = .ok (.bl true) A := eqA_of (eqA_pd h)
theorem oNe_pd (h : pd 40 x = true) : oNe x x A = .ok (.bl false) A := neA_of (eqA_pd h)
theorem oEq_lst (h : A[i]? = some (.lst l)) (k : A[j]? = some (.lst l)) (hp : l.all (pd 39) = true) : oEq (.ref i) (.ref j) A = .ok (.bl true) A := eqA_of (eqA_lst h k hp)
theorem oNe_lst (h : A[i]? = some (.lst l)) (k : A[j]? = some (.lst l)) (hp : l.all (pd 39) = true) : oNe (.ref i) (.ref j) A = .ok (.bl false) A := neA_of (eqA_lst h k hp)
theorem oNe_is {t : Str} : oNe (.int p) (.str t) A = .ok (.bl true) A := by
  refine neA_of (b := false) ?_
  unfold eqA; simp [pyA, PyData.eqv]
theorem oNe_ids {t : String} : oNe (.int p) (dS t) A = .ok (.bl true) A := oNe_is
theorem oEq_is {t : Str} : oEq (.int p) (.str t) A = .ok (.bl false) A := by
  refine eqA_of (b := false) ?_
  unfold eqA; simp [pyA, PyData.eqv]
theorem oEq_ids {t : String} : oEq (.int p) (dS t) A = .ok (.bl false) A := oEq_is
theorem oEq_bb {b c : Bool} : oEq (.bl b) (.bl c) A = .ok (.bl (decide (b = c))) A := by
  refine eqA_of ?_
  unfold eqA; cases b <;> cases c <;> simp [pyA, PyData.eqv]
/-! slices -/
theorem sIx_some {n d : Nat} {v : Int} (h : 0 ≤ v) : HT.sIx n d (some v) = min v.toNat n := by
  obtain ⟨k, rfl⟩ := Int.eq_ofNat_of_zero_le h
  exact HT.sIx_nat n d k
theorem z5x {l : List α} : cutD l none none = l := by
  unfold cutD; rw [HT.sIx_none, HT.sIx_none]; simp
theorem z61 {l : List α} (h : 0 ≤ p) : cutD l none (some p) = l.take p.toNat := by
  unfold cutD; rw [HT.sIx_none, sIx_some h]
  rw [List.drop_zero, Nat.sub_zero, List.take_eq_take_iff]; omega
theorem z5z {l : List α} (h : 0 ≤ p) : cutD l (some p) none = l.drop p.toNat := by
  unfold cutD; rw [HT.sIx_none, sIx_some h]
  rcases Nat.le_total p.toNat l.length with q | q
  · rw [Nat.min_eq_left q, List.take_of_length_le (by rw [List.length_drop]; omega)]
  · rw [Nat.min_eq_right q, List.drop_of_length_le (Nat.le_refl _), List.drop_of_length_le q]; simp
theorem z4x {l : List α} (h : 0 ≤ p) (k : 0 ≤ q) : cutD l (some p) (some q) = (l.drop p.toNat).take (q.toNat - p.toNat) := by
  unfold cutD; rw [sIx_some h, sIx_some k]
  rcases Nat.le_total p.toNat l.length with r | r
  · rw [Nat.min_eq_left r, List.take_eq_take_iff, List.length_drop]; omega
  · rw [Nat.min_eq_right r, List.drop_of_length_le (Nat.le_refl _), List.drop_of_length_le r]; simp
theorem z4s {l : List α} (h : 0 ≤ p) : atI l p = l[p.toNat]? := by
  unfold atI ixN
  rw [if_pos h]
  by_cases k : p < l.length
  · rw [if_pos k]; rfl
  · rw [if_neg k, List.getElem?_eq_none (by omega)]; rfl
theorem ixN_nat (h : 0 ≤ p) (k : p < (n : Int)) : ixN n p = some p.toNat := by
  unfold ixN; rw [if_pos h, if_pos k]
end
end SM

/-! ## the same, as rules that only compute (the heap's places are looked up in the term) -/
namespace SM
open PySem L2
section
variable {α β : Type} {A A1 A2 A3 : Hs} {env e1 e2 : Sl} {a b c o v : E} {as : As} {d d1 d2 x y z w : D} {i j k n : Nat} {p q r : Int} {C m : String} {f g : S} {F : Fn} {cs os xs : List String} {tb : List (String × String × Bool)} {l l1 l2 : List D} {fs : List (String × D)} {u u1 u2 : O} {lo hi : Option Int} {t lk : Bool} {kv : List (D × D)}
def sq_ : Option O → Option (List D)
  | some (.lst l) => some l
  | _ => none
theorem z9h : sq_ (some (.lst l)) = some l := rfl
theorem z6e : seqL A (.ref i) = sq_ A[i]? := by unfold seqL sq_; rfl
theorem z3s : lstAt A (.ref i) = (sq_ A[i]?).map fun l => (i, l) := by
  unfold lstAt sq_
  rcases h : A[i]? with _ | u
  · simp only [h]; rfl
  · cases u <;> simp only [h] <;> rfl
theorem z7k {α β : Type} {f : α → β} {x : α} : (some x).map f = some (f x) := rfl
def ob_ : Option O → Option (String × List (String × D))
  | some (.obj C fs) => some (C, fs)
  | _ => none
theorem z8x : ob_ (some (.obj C fs)) = some (C, fs) := rfl
theorem z43 : objAt A (.ref i) = ob_ A[i]? := by unfold objAt ob_; rfl
def gf_ (cs : List String) (f : String) : Option (String × List (String × D)) → Option D
  | some (C, fs) => if C ∈ cs then fs.lookup f else none
  | none => none
theorem z93 {f : String} : gf_ cs f (some (C, fs)) = if C ∈ cs then fs.lookup f else none := rfl
theorem z2m {f : String} : getFld cs f A x = gf_ cs f (objAt A x) := by unfold getFld gf_; rfl
def sf_ (cs : List String) (A : Hs) (i : Nat) (f : String) (d : D) : Option (String × List (String × D)) → Option Hs
  | some (C, fs) => if C ∈ cs ∧ fs.length < 999 then some (A.set i (.obj C (putF f d fs))) else none
  | none => none
theorem z9p {f : String} : sf_ cs A i f d (some (C, fs)) = if C ∈ cs ∧ fs.length < 999 then some (A.set i (.obj C (putF f d fs))) else none := rfl
theorem z2a {f : String} : setFld cs A (.ref i) f d = sf_ cs A i f d (ob_ A[i]?) := by
  unfold setFld
  rcases h : A[i]? with _ | u
  · simp only [h]; rfl
  · cases u <;> simp only [h] <;> rfl
def mo_ (m : String) (t : List (String × Fn)) : Option (String × List (String × D)) → Option Fn
  | some (C, fs) => if (fs.lookup m).isSome = true then none else t.lookup C
  | none => none
theorem z9r {t : List (String × Fn)} : mo_ m t (some (C, fs)) = if (fs.lookup m).isSome = true then none else t.lookup C := rfl
theorem z2s {t : List (String × Fn)} : methOf m t A x = mo_ m t (objAt A x) := by
  unfold methOf mo_; rfl
theorem z2f {β : Type} {f : String} : List.lookup f ([] : List (String × β)) = none := rfl
theorem z1b {β : Type} {f g : String} {x : β} {r : List (String × β)} : List.lookup f ((g, x) :: r) = if f = g then some x else List.lookup f r := by
  by_cases h : f = g
  · rw [if_pos h]; subst h; simp
  · rw [if_neg h, List.lookup, beq_false_of_ne h]
theorem look_cons_i {β : Type} {f g : Int} {x : β} {r : List (Int × β)} : List.lookup f ((g, x) :: r) = if f = g then some x else List.lookup f r := by
  by_cases h : f = g
  · rw [if_pos h]; subst h; simp
  · rw [if_neg h, List.lookup, beq_false_of_ne h]
def at_ (A : Hs) : Option D → RE D
  | some d => .ok d A
  | none => .stuck
theorem z9f : at_ A (some d) = .ok d A := rfl
def ln_ (A : Hs) : Option O → RE D
  | some (.lst l) => .ok (.int l.length) A
  | some (.dic false false l) => .ok (.int l.length) A
  | _ => .stuck
theorem z94 : ln_ A (some (.lst l)) = .ok (.int l.length) A := rfl
theorem z9q : ln_ A (some (.dic false false kv)) = .ok (.int kv.length) A := rfl
theorem z55 : oLen (.ref i) A = ln_ A A[i]? := by
  unfold oLen lenA; rw [z6e]
  simp only [seqT]
  rcases A[i]? with _ | u
  · rfl
  · cases u with
    | lst l => rfl
    | obj C f => rfl
    | dic t lk kv => cases t <;> cases lk <;> rfl
theorem z1n : oLen (.scr l) A = .ok (.int l.length) A := rfl
def ix_ (A : Hs) (p : Int) : Option (List D) → RE D
  | some l => at_ A (atI l p)
  | none => .stuck
theorem z8e : ix_ A p (some l) = at_ A (atI l p) := rfl
theorem z70 : oIx (.ref i) (.int p) A = ix_ A p (sq_ A[i]?) := by
  unfold oIx; simp only [z6e]
  rcases h : sq_ A[i]? with _ | l
  · rfl
  · show (match atI l p with | some d => RE.ok d A | none => .stuck) = at_ A (atI l p)
    cases atI l p <;> rfl
theorem z2t : oIx (.scr l) (.int p) A = at_ A (atI l p) := by
  unfold oIx; simp only [seqL]; unfold at_; cases atI l p <;> rfl
theorem z47 : oIx (.tup l) (.int p) A = at_ A (atI l p) := by
  unfold oIx seqT; simp only [z2j]; unfold at_; cases atI l p <;> rfl
def nw_ (A : Hs) : Option (List D) → RE D
  | some l => .ok (.ref A.length) (A ++ [.lst l])
  | none => .stuck
theorem z9u : nw_ A (some l) = .ok (.ref A.length) (A ++ [.lst l]) := rfl
theorem z7q : oSl (.ref i) lo hi A = nw_ A ((sq_ A[i]?).map fun l => cutD l lo hi) := by
  unfold oSl; rw [z6e]; cases sq_ A[i]? <;> rfl
theorem z38 : oSl (.scr l) lo hi A = .ok (.ref A.length) (A ++ [.lst (cutD l lo hi)]) := rfl
theorem z4d : oList (.ref i) A = nw_ A (sq_ A[i]?) := by
  unfold oList; rw [z6e]; cases sq_ A[i]? <;> rfl
theorem z1j : oList (.scr l) A = .ok (.ref A.length) (A ++ [.lst l]) := rfl
theorem z5d : oRev (.ref i) A = nw_ A ((sq_ A[i]?).map List.reverse) := by
  unfold oRev; rw [z6e]; cases sq_ A[i]? <;> rfl
def tp_ (A : Hs) : Option (List D) → RE D
  | some l => .ok (.tup l) A
  | none => .stuck
theorem z8c : tp_ A (some l) = .ok (.tup l) A := rfl
theorem z1t : oTuple (.ref i) A = tp_ A (sq_ A[i]?) := by
  unfold oTuple; rw [z6e]; cases sq_ A[i]? <;> rfl
theorem z0n : oTuple (.scr l) A = .ok (.tup l) A := rfl
def ap_ (A : Hs) (i : Nat) (l1 : List D) : Option (List D) → RE D
  | some l => if l.length + l1.length ≤ sizeLine then .ok .non (A.set i (.lst (l ++ l1))) else .stuck
  | none => .stuck
theorem z9i (h : l.length + l1.length ≤ 16000000) : ap_ A i l1 (some l) = .ok .non (A.set i (.lst (l ++ l1))) := if_pos (z0g h)
theorem z0q : oAppend (.ref i) [d] A = ap_ A i [d] (sq_ A[i]?) := by
  unfold oAppend; rw [z3s]
  rcases sq_ A[i]? with _ | l
  · rfl
  · simp only [z7k, ap_, List.length_singleton]; rfl
theorem z0o : oExtend (.ref i) [.tup l1] A = ap_ A i l1 (sq_ A[i]?) := by
  unfold oExtend; rw [z3s]
  rcases sq_ A[i]? with _ | l
  · rfl
  · simp only [z7k, lstAt]; rfl
def ex_ (A : Hs) (i : Nat) (r : Option (List D)) : Option (List D) → RE D
  | some l1 => ap_ A i l1 r
  | none => .stuck
theorem z89 {r : Option (List D)} : ex_ A i r (some l1) = ap_ A i l1 r := rfl
theorem z0b : oExtend (.ref i) [.ref j] A = ex_ A i (sq_ A[i]?) (sq_ A[j]?) := by
  unfold oExtend
  rcases h : sq_ A[i]? with _ | l
  · rcases h2 : sq_ A[j]? with _ | l1 <;> simp only [z3s, h, Option.map] <;> rfl
  · rcases h2 : sq_ A[j]? with _ | l1 <;> simp only [z3s, h, h2, Option.map] <;> rfl
def cl_ (A : Hs) (i : Nat) : Option (List D) → RE D
  | some _ => .ok .non (A.set i (.lst []))
  | none => .stuck
theorem z91 : cl_ A i (some l) = .ok .non (A.set i (.lst [])) := rfl
theorem z2r : oClear (.ref i) A = cl_ A i (sq_ A[i]?) := by
  unfold oClear; rw [z3s]; cases sq_ A[i]? <;> rfl
def si_ (A : Hs) (i : Nat) (y v : D) (u : Option O) : Option Hs := match u with
    | some (.lst l) => match y with
      | .int k => match ixN l.length k with
        | some n => some (A.set i (.lst (l.set n v)))
        | none => none
      | _ => none
    | some (.dic t false l) => if keyOk t y && decide (l.length < sizeLine) then some (A.set i (.dic t false (kput l y v))) else none
    | _ => none
theorem z3h : setIt A (.ref i) y z = si_ A i y z A[i]? := rfl
theorem z8i (h : 0 ≤ p ∧ p < (l.length : Int)) : si_ A i (.int p) z (some (.lst l)) = some (A.set i (.lst (l.set p.toNat z))) := by
  unfold si_; simp only [ixN_nat h.1 h.2]
theorem z9s (h : kv.length < 16000000) : si_ A i y z (some (.dic t false kv)) = if keyOk t y = true then some (A.set i (.dic t false (kput kv y z))) else none := by
  unfold si_; simp only [decide_eq_true (small_line' h), Bool.and_true]
def gn_ (p : Int) : Option (List D) → Option D
  | some l => if 0 ≤ p then l[p.toNat]? else none
  | none => none
theorem z8j : gn_ p (some l) = if 0 ≤ p then l[p.toNat]? else none := rfl
theorem z5n : getN A (.ref i) (.int p) = gn_ p (sq_ A[i]?) := by
  unfold getN; rw [z6e]; cases sq_ A[i]? <;> rfl
def il_ : Option O → Bool
  | some (.lst _) => true
  | _ => false
theorem z8g : il_ (some (.lst l)) = true := rfl
theorem z95 : il_ (some (.dic t lk kv)) = false := rfl
theorem z3v : isLst A (.ref i) = il_ A[i]? := by unfold isLst il_; rfl
def dg_ (A : Hs) (y : D) : Option O → RE D
  | some (.dic t _ kv) => if keyOk t y = true then at_ A (kget kv y) else .stuck
  | _ => .stuck
theorem z8f : dg_ A y (some (.dic t lk kv)) = if keyOk t y = true then at_ A (kget kv y) else .stuck := rfl
theorem z4e : oDGet (.ref i) y A = dg_ A y A[i]? := by
  unfold oDGet dicAt
  rcases h : A[i]? with _ | u
  · simp only [h]; rfl
  · cases u with
    | dic t lk kv => simp only [h, dg_]; unfold at_; split <;> first | rfl | (cases kget kv y <;> rfl)
    | _ => simp only [h]; rfl
def wl_ (A : Hs) (i : Nat) : Option O → Option Wk
  | some (.lst l) => some ⟨l, fun A' => A'[i]? = some (.lst l)⟩
  | _ => none
theorem z8p : wl_ A i (some (.lst l)) = some ⟨l, fun A' => A'[i]? = some (.lst l)⟩ := rfl
theorem z7d : wkA A (.ref i) = wl_ A i A[i]? := by
  unfold wkA wkL wl_
  rcases h : A[i]? with _ | u
  · simp only [h]
  · cases u <;> simp only [h]
def we_ (A : Hs) (i : Nat) : Option O → Option Wk
  | some (.lst l) => some ⟨enumL l, fun A' => A'[i]? = some (.lst l)⟩
  | _ => none
theorem z92 : we_ A i (some (.lst l)) = some ⟨enumL l, fun A' => A'[i]? = some (.lst l)⟩ := rfl
theorem z7h : wkE A (.ref i) = we_ A i A[i]? := by
  unfold wkE wkL we_
  rcases h : A[i]? with _ | u
  · simp only [h]; rfl
  · cases u <;> simp only [h] <;> rfl
/-! lists of truths, numbers -/
def al_ (A : Hs) : Option (List Bool) → RE D
  | some bs => .ok (.bl (bs.all id)) A
  | none => .stuck
theorem z9o {bs : List Bool} : al_ A (some bs) = .ok (.bl (bs.all id)) A := rfl
theorem z5w : oAll x A = al_ A ((seqL A x).bind boolsOf) := by unfold oAll al_; rfl
def sm_ (A : Hs) : Option (List Int) → RE D
  | some bs => .ok (.int bs.sum) A
  | none => .stuck
theorem z9b {ns : List Int} : sm_ A (some ns) = .ok (.int ns.sum) A := rfl
theorem z5r : oSum x A = sm_ A ((seqL A x).bind intsOf) := by unfold oSum sm_; rfl
theorem z4c {α β : Type} {f : α → Option β} {x : α} : (some x).bind f = f x := rfl
/-! places -/
theorem z8r (h : i < A.length) : (A.set i u)[i]? = some u := List.getElem?_set_self h
theorem z3k (h : i ≠ j) : (A.set i u)[j]? = A[j]? := List.getElem?_set_ne h
theorem z7m (h : j < A.length) : (A ++ [u])[j]? = A[j]? := List.getElem?_append_left h
theorem z9g : (A ++ [u])[A.length]? = some u := by simp
theorem z7u (h : j = A.length) : (A ++ [u])[j]? = some u := by subst h; simp
theorem z22 : (A ++ [u]).length = A.length + 1 := by simp
theorem z1w : kget [] y = none := rfl
theorem z18 : kget ((x, z) :: kv) y = if keq x y = true then some z else kget kv y := by rw [kget]
theorem z9t : il_ (some (.obj C fs)) = false := rfl
theorem z85 : (Wk.mk l tt).gd = tt := rfl
theorem z7n {gd : Hs → Prop} : (Wk.mk l gd).ds = l := rfl
theorem z6z {gd : Hs → Prop} : (Wk.mk l gd).gd = gd := rfl
theorem z1u : wipeS env [] = env := rfl
theorem z14 {vs : List Nat} : wipeS env (i :: vs) = (wipeS env vs).set i none := by rw [wipeS]
/-- a result, by what holds of it -/
def Rk {α : Type} (r : RE α) (P : α → Hs → Prop) : Prop := match r with
  | .ok v A => P v A
  | _ => False
theorem z6m {α : Type} {x : α} {P : α → Hs → Prop} : Rk (.ok x A) P = P x A := rfl
theorem Rk.ex {α : Type} {r : RE α} {P : α → Hs → Prop} (h : Rk r P) : ∃ v A1, r = .ok v A1 ∧ P v A1 := by
  cases r with
  | ok v A1 => exact ⟨v, A1, rfl, h⟩
  | _ => exact h.elim
theorem Rk.of {α : Type} {r : RE α} {P : α → Hs → Prop} {x : α} (e : r = .ok x A) (h : P x A) : Rk r P := by rw [e]; exact h
theorem Rk.mono {α : Type} {r : RE α} {P P2 : α → Hs → Prop} (h : Rk r P) (k : ∀ v A, P v A → P2 v A) : Rk r P2 := by
  obtain ⟨v, A1, e, p⟩ := h.ex
  exact .of e (k v A1 p)
theorem Rk.make {P : D → Hs → Prop} {ds : List D} (h : Rk (F (.ref A.length :: ds) (A ++ [.obj C []])) fun v A1 => v = .non ∧ P (.ref A.length) A1) : Rk (make C F ds A) P := by
  obtain ⟨v, A1, e, rfl, p⟩ := h.ex
  exact .of (make_ok e) p
/-- a call in the goal, by what is known of it -/
theorem Rk.call {α : Type} {r : RE α} {P : α → Hs → Prop} (Q : RE α → Prop) (h : Rk r P) (k : ∀ v A1, P v A1 → Q (.ok v A1)) : Q r := by
  obtain ⟨v, A1, e, p⟩ := h.ex
  rw [e]; exact k v A1 p
/-- one turn of a loop: J where it goes on, R where the loop ends -/
def Trn (J : Sl → Hs → Prop) (R : RS → Prop) (r : RS) : Prop := match r with
  | .nx e A => J e A
  | .ct e A => J e A
  | .rt d A => R (.rt d A)
  | .bk e A => R (.nx e A)
  | .exc C e A => R (.exc C e A)
  | .stuck => False
theorem z83 {J : Sl → Hs → Prop} {R : RS → Prop} : Trn J R (.nx env A) = J env A := rfl
theorem z7a {J : Sl → Hs → Prop} {R : RS → Prop} : Trn J R (.ct env A) = J env A := rfl
theorem z7w {J : Sl → Hs → Prop} {R : RS → Prop} : Trn J R (.rt d A) = R (.rt d A) := rfl
theorem z7r {J : Sl → Hs → Prop} {R : RS → Prop} : Trn J R (.bk env A) = R (.nx env A) := rfl
theorem z69 {J : Sl → Hs → Prop} {R : RS → Prop} : Trn J R (.exc C env A) = R (.exc C env A) := rfl
def Tst (s : Hs → Prop) (k : Hs → Prop) (c : Bool) (A : Hs) : Prop := match c with
  | true => s A
  | false => k A
theorem z6n {s k : Hs → Prop} : Tst s k true A = s A := rfl
theorem z6v {s k : Hs → Prop} : Tst s k false A = k A := rfl
theorem z6q {s k : Hs → Prop} {c : Prop} [Decidable c] : Tst s k (decide c) A = if c then s A else k A := by
  by_cases h : c
  · simp [h, Tst]
  · simp [h, Tst]
theorem wh_go {t : Tt} (I : Nat → Sl → Hs → Prop) (R : RS → Prop) {n : Nat} (h0 : I n env A)
    (hs : ∀ n e A, I n e A → Rk (t e A) (Tst (fun A1 => Trn (fun e2 A2 => ∃ m, m < n ∧ I m e2 A2) R (f e A1)) fun A1 => R (.nx e A1))) : R (sWh t f env A) := by
  refine wh_inv I R h0 fun n e A hI => ?_
  obtain ⟨c, A1, h1, h2⟩ := (hs n e A hI).ex
  cases c with
  | false => exact .inl ⟨A1, h1, h2⟩
  | true =>
    refine .inr ⟨A1, h1, ?_⟩
    change Trn _ _ _ at h2
    cases q : f e A1 with
    | nx e2 A2 => rw [q] at h2; exact .inl ⟨e2, A2, .inl rfl, h2⟩
    | ct e2 A2 => rw [q] at h2; exact .inl ⟨e2, A2, .inr rfl, h2⟩
    | rt d2 A2 => rw [q] at h2; exact .inr (.inl ⟨d2, A2, rfl, h2⟩)
    | bk e2 A2 => rw [q] at h2; exact .inr (.inr (.inl ⟨e2, A2, rfl, h2⟩))
    | exc C e2 A2 => rw [q] at h2; exact .inr (.inr (.inr ⟨C, e2, A2, rfl, h2⟩))
    | stuck => rw [q] at h2; exact h2.elim
def Got (r : Option Sl) (P : Sl → Prop) : Prop := match r with
  | some e => P e
  | none => False
theorem z6r {P : Sl → Prop} : Got (some env) P = P env := rfl
theorem for_go {g : G} {gd : Hs → Prop} (I : Nat → Sl → Hs → Prop) (R : RS → Prop) {ds : List D} (h0 : I 0 env A) (hg : ∀ i e A, i ≤ ds.length → I i e A → gd A)
    (hs : ∀ i e A d, ds[i]? = some d → I i e A → Got (g d e A) fun e1 => Trn (I (i + 1)) R (f e1 A))
    (hd : ∀ e A, I ds.length e A → R (.nx e A)) : R (forL g f gd ds env A) := by
  refine for_inv I R h0 hg (fun i e A d hd hI => ?_) hd
  have h2 := hs i e A d hd hI
  cases q0 : g d e A with
  | none => rw [q0] at h2; exact h2.elim
  | some e1 =>
    rw [q0, z6r] at h2
    refine ⟨e1, rfl, ?_⟩
    cases q : f e1 A with
    | nx e2 A2 => rw [q] at h2; exact .inl ⟨e2, A2, .inl rfl, h2⟩
    | ct e2 A2 => rw [q] at h2; exact .inl ⟨e2, A2, .inr rfl, h2⟩
    | rt d2 A2 => rw [q] at h2; exact .inr (.inl ⟨d2, A2, rfl, h2⟩)
    | bk e2 A2 => rw [q] at h2; exact .inr (.inr (.inl ⟨e2, A2, rfl, h2⟩))
    | exc C e2 A2 => rw [q] at h2; exact .inr (.inr (.inr ⟨C, e2, A2, rfl, h2⟩))
    | stuck => rw [q] at h2; exact h2.elim
/-- a comprehension of pure parts over what its walk gives, as simp shows it -/
theorem lc_go {g : G} {t : Tt} {gd : Hs → Prop} (p : D → Bool) (h : D → D) {ds : List D} (hgd : gd A) (hl : ds.length < 16000000)
    (hs : ∀ d ∈ ds, Got (g d env A) fun e1 => Rk (t e1 A) fun c A1 => c = p d ∧ A1 = A ∧ (c = true → Rk (a e1 A) fun v A2 => v = h d ∧ A2 = A)) : lcL g t a gd env ds [] A = .ok ((ds.filter p).map h) A := by
  refine lc_pure p h hgd (by simpa using hl) fun d hd => ?_
  have h2 := hs d hd
  cases q0 : g d env A with
  | none => rw [q0] at h2; exact h2.elim
  | some e1 =>
    rw [q0, z6r] at h2
    obtain ⟨c, A1, e, rfl, rfl, k⟩ := h2.ex
    refine ⟨e1, rfl, e, fun hp => ?_⟩
    obtain ⟨v, A2, e3, rfl, rfl⟩ := (k hp).ex
    exact e3
end
end SM

/-! ## enumerate over a tuple -/
namespace SM
open PySem L2 PySem.Spec PyProof.Rows
theorem meets_enumerate_newB1 {v : Value} {o : Obj} {H : Heap → Prop} (B : Begins v o H) :
    Meets (Builtin.«enumerate.__new__» ⟨[.type "enumerate", v], []⟩) (fun _ R s => H s.heap ∧
      R (.ok (.ret (.ref (s.heap.push o).objs.size))) { s with heap := (s.heap.push o).push { cls := .type "enumerate", data := .fields #[.none, .bool false, .ref s.heap.objs.size, rawInt 0, .none, .none] } }) :=
  .of_wp fun prog w A R s h => by
    obtain ⟨hp, g, d, tk, os⟩ := s; obtain ⟨h1, h⟩ := h
    have hsub := sub_enumerate
    have q1 : ∀ {A' : Around} {E : Value → Shared → Prop} {Q : Value → Shared → Prop}, Q (.ref hp.objs.size) ⟨hp.push o, g, d, tk, os⟩ → wpAny (model prog w) A' (pyIter v) Q E ⟨hp, g, d, tk, os⟩ :=
      fun q => B.iter prog w _ _ ⟨hp, g, d, tk, os⟩ _ h1 q
    wp_walk using q1
    refine wpAny_stack_any fun st => wpAny_pure ?_
    split
    · rename_i c _ _ _ _ _
      cases (c == Value.type "enumerate")
      · wp_walk using q1
        exact ⟨_, rfl, h⟩
      · wp_walk using q1
        exact ⟨_, rfl, h⟩
    · wp_walk using q1
      exact ⟨_, rfl, h⟩
section
variable {prog : Program} {w : World} {A : Around} {E : Value → Shared → Prop} {s : Shared}
theorem enum_begins1 {v : Value} {o : Obj} {H : Heap → Prop} {Q : Value → Shared → Prop} (B : Begins v o H) (h1 : H s.heap)
    (h : ∀ h', IsEnum h' (s.heap.objs.size + 1) s.heap.objs.size 0 .none → h'.get? s.heap.objs.size = some o → h'.objs.size = s.heap.objs.size + 2 →
      (∀ b o, s.heap.get? b = some o → h'.get? b = some o) → Q (.ref (s.heap.objs.size + 1)) { s with heap := h' }) :
    wpAny (model prog w) A (call (.type "enumerate") [v]) Q E s := by
  refine callType_new F.called_enumerate (by decide) (F.typeCall_enumerate_1 _) (F.newCall_enumerate_1 _) (fun obj => F.args_object_init_2 obj _) F.entry_enumerate_new
    (meets_enumerate_newB1 B) ⟨h1, ?_⟩
  have hz : (s.heap.push o).objs.size = s.heap.objs.size + 1 := Heap.size_push ..
  show _ ∧ _
  rw [hz]
  have he : IsEnum ((s.heap.push o).push { cls := .type "enumerate", data := .fields #[.none, .bool false, .ref s.heap.objs.size, rawInt 0, .none, .none] }) (s.heap.objs.size + 1) s.heap.objs.size 0 .none := by
    have := Heap.get?_push_size (s.heap.push o) (o := { cls := .type "enumerate", data := .fields #[.none, .bool false, .ref s.heap.objs.size, rawInt 0, .none, .none] }) rfl
    rw [hz] at this; exact this
  refine ⟨⟨_, he, rfl⟩, h _ he (Heap.get?_push_of_some _ (Heap.get?_push_size _ B.free)) (by rw [Heap.size_push, hz]) fun b o x => Heap.get?_push_of_some _ (Heap.get?_push_of_some _ x)⟩
end
/-- the tuple at a, each item in a new pair -/
def IteT (K : PySem.W.Frag) (a : Addr) : It :=
  ⟨fun i H => ∃ (xs : List V) (x : V), SqT K H a xs ∧ xs[i]? = some x, fun i H v H' => ∃ T x, v = .ref T ∧ H T = none ∧ H' = upd H T (.tup [.int (i : Nat), x]) ∧ ∀ xs, SqT K H a xs → xs[i]? = some x, fun i H => ∃ xs : List V, SqT K H a xs ∧ xs.length ≤ i⟩
theorem turn_enumT {P : Program} {w : World} {K : PySem.W.Frag} {elts : List Expr} {kk : Nat} {tpos : Pos} (a e it : Addr) :
    Turn P w K (.Tuple elts kk tpos) (IteT K a) [e, it] e (fun i h => (∃ old, IsEnum h e it ((i : Nat) : Int) old) ∧ h.IsTupleIter it a i ∧ e ≠ it) where
  mem := by simp
  obj := fun i h st b hb => by
    obtain ⟨⟨old, he⟩, ⟨o, ho, hc, hd⟩, _⟩ := st
    have e' : b = e ∨ b = it := by simpa using hb
    rcases e' with z | z
    · rw [z]; exact ⟨_, he, fun v q => nomatch q⟩
    · rw [z]; exact ⟨o, ho, fun v q => by rw [hd] at q; cases q⟩
  keep := fun i h h' st k => let ⟨⟨old, he⟩, hi, hne⟩ := st; ⟨⟨old, k e (by simp) _ he⟩, hi.at fun o q => k it (by simp) o q, hne⟩
  item := by
    intro X hP hw hK hc i pins s σ H E I hf st hg
    subst hP hw hK
    obtain ⟨⟨old, he⟩, hit, hne⟩ := st
    obtain ⟨xs, x, hq, hx⟩ := hg
    obtain ⟨its, rv, p, hz⟩ := I.tuple hq
    obtain ⟨u, hu, ru⟩ := rv.get hx
    have hel : e < s.heap.objs.size := Heap.lt_size he
    have hil : it < s.heap.objs.size := by obtain ⟨_, q, _⟩ := hit; exact Heap.lt_size q
    have hpT : s.heap.IsTuple a its.toArray := p
    have hai : a ≠ it := fun z => by
      subst z
      obtain ⟨o, ho, hc, hd⟩ := hit
      obtain ⟨o2, ho2, hc2, _⟩ := hpT
      rw [ho] at ho2; cases ho2
      rw [hc] at hc2; simp at hc2
    have hae : a ≠ e := fun z => by
      subst z
      obtain ⟨o2, ho2, hc2, _⟩ := hpT
      rw [he] at ho2; cases ho2
      simp at hc2
    have hlt : i < its.toArray.size := by
      rcases Nat.lt_or_ge i its.length with q | q
      · simpa using q
      · rw [List.getElem?_eq_none q] at hu; cases hu
    refine wpAny_pyNext_enum_itemD (A := X.A) (Draws.tuple (A := X.A.in1) (I.ok.hd hc) it a hai its.toArray) he ⟨hit, hpT⟩ hlt hne (by simp; exact ⟨hne, fun z => hae z.symm⟩) fun u' h' tk hP ho hst hT hsz hk => ?_
    obtain rfl : u' = u := by
      have : its.toArray[i]? = some u := by simpa using hu
      rw [this] at hP; cases hP; rfl
    refine ⟨_, rfl, wpAny_letOwnedTupleGo_enum (s := { s with heap := h', toks := tk + 1 }) ho fun h'' he' sb => ?_⟩
    have hT2 : h''.get? s.heap.objs.size = some { cls := .type "tuple", data := .seq #[.int i tk, u'] } := (sb.2 _ (Nat.ne_of_gt hel)).trans hT
    have new : ObjOk X.prog X.w (upd H s.heap.objs.size (.tup [.int (i : Nat), x])) h'' s.heap.objs.size (.tup [.int (i : Nat), x]) :=
      ⟨by show 2 ≤ sizeLine; decide, [.int i tk, u'], .cons ⟨_, rfl⟩ (.cons ru .nil), ⟨_, hT2, rfl, _, rfl⟩⟩
    have I1 : Inv X pins σ (upd H s.heap.objs.size (.tup [.int (i : Nat), x])) { s with heap := h'', toks := tk + 1 } :=
      I.turnedNew (ch := [e, it]) (fun b ob hb q => (sb.2 b (fun z => hb (by simp [z]))).trans (hk b ob (fun z => hb (by simp [z])) (fun z => hb (by simp [z])) q)) hf (Nat.le_refl _) new
    refine ⟨.ref s.heap.objs.size, _, I1, rfl, ⟨_, x, rfl, I.hok.fresh (Nat.le_refl _), rfl, fun ys hy => by rw [I.tuple_inj hy hq]; exact hx⟩, ⟨⟨u', ?_⟩, hst.1.at fun o q => (sb.2 it (Ne.symm hne)).trans q, hne⟩, fun b hb => ?_⟩
    · have e1 : ((i + 1 : Nat) : Int) = (i : Int) + 1 := by omega
      rw [e1]; exact he'
    · have hb' : b < s.heap.objs.size := by
        have e' : b = e ∨ b = it := by simpa using hb
        rcases e' with z | z
        · rw [z]; exact hel
        · rw [z]; exact hil
      rw [upd_ne (Nat.ne_of_lt hb')]
      exact (hf b hb).1
  done := by
    intro X hP hw hK hc i pins s σ H E I hf st hg
    subst hP hw hK
    obtain ⟨⟨old, he⟩, hit, hne⟩ := st
    obtain ⟨xs, hq, hx⟩ := hg
    obtain ⟨its, rv, p, hz⟩ := I.tuple hq
    obtain ⟨f0, f1, f2, f3, f4, f5⟩ := hf it (by simp)
    have hl := rv.length
    have hpT : s.heap.IsTuple a its.toArray := p
    have hT : s.TypeIs (.ref e) "enumerate" := ⟨_, he, rfl⟩
    unfold pyNext
    refine wpAny_bind (wpAny_attempt (wpAny_callSpecial?_slot (name := Str.ofString "__next__") hT F.slot_enumerate_next
      (wpAny_call_entry F.slot_enumerate_next hT F.entry_enumerate_next ?_ (F.args_enumerate_next_1 _))))
    show wpAny _ _ (field (.ref e) 2 >>= _) _ _ _
    refine wpAny_bind (wpAny_field he rfl (x := .ref it) rfl ?_)
    refine wpAny_bind (wpAny_nextOf_tuple_end (I.ok.hd hc) hit hpT (by simp; omega) fun h' x he' hx' => ?_)
    obtain ⟨o, ho, hc⟩ := hx'
    refine wpAny_bind (wpAny_isInstance (T := "StopIteration") (b := true) ⟨o, ho, hc⟩ isSubtype_stop ?_)
    exact wpAny_pure ⟨rfl, I.turned (t' := s.toks) (fun b o hb q => he' b o hb q) f0 f1 f3 f4 f5⟩
  self := fun A i s Q E st h => let ⟨⟨_, he⟩, _⟩ := st; wpAny_pyIter_enum he h
def iEnumT (K : PySem.W.Frag) (ta : TA) : TI := fun σ H R => ta σ H fun vs H1 => ∃ a xs, vs = [.ref a] ∧ SqT K H1 a xs ∧ R (IteT K a) H1
theorem pi_enumT {X : Cx} {e : Expr} {ta : TA} {p pos tpos : Pos} {elts : List Expr} {kk : Nat} (hg : Gl X "enumerate") (hm : X.mg "enumerate" = none) (ha : PA X [e] ta) (hs : starEach [e] X.env = [(false, eval e X.env)] := by rfl) :
    PI X (.Tuple elts kk tpos) (.Call (.Name "enumerate" p) [e] [] pos) (iEnumT X.K ta) := by
  refine ⟨fun pins s σ H R I h => ?_⟩
  refine PyProof.Rows.Call_ (ld_blt I hg hm boot_enumerate (PyProof.Rows.callWith_type1 (thn (ha.run pos pins s σ H _ I h) fun us s1 ⟨vs, H1, I1, r1, q1⟩ => ?_) hs rfl))
  obtain ⟨a, xs, ex, hq, q⟩ := q1
  subst ex
  cases r1 with
  | cons r rr =>
    cases rr
    cases r
    obtain ⟨its, rv, p', hz⟩ := I1.tuple hq
    have hpT : s1.heap.IsTuple a its.toArray := p'
    refine enum_begins1 (begins_tuple a its.toArray) hpT fun h' he hit hsz hk => wpAny_pyIter_enum he ?_
    have I2 : Inv X pins σ H1 { s1 with heap := h' } := I1.kept (t' := s1.toks) hk
    refine ⟨s1.heap.objs.size + 1, [s1.heap.objs.size + 1, s1.heap.objs.size], _, _, H1, rfl, I2, turn_enumT a (s1.heap.objs.size + 1) s1.heap.objs.size, ⟨⟨.none, he⟩, ⟨_, hit, rfl, rfl⟩, Nat.succ_ne_self _⟩, fun b hb => ?_, q⟩
    have e' : b = s1.heap.objs.size + 1 ∨ b = s1.heap.objs.size := by simpa using hb
    have hle : s1.heap.objs.size ≤ b := by
      rcases e' with z | z
      · rw [z]; exact Nat.le_add_right _ _
      · rw [z]; exact Nat.le_refl _
    exact I1.fpOk hle (I1.hok.fresh hle)
theorem PI.or {X : Cx} {tg e : Expr} {i1 i2 : TI} (h1 : PI X tg e i1) (h2 : PI X tg e i2) : PI X tg e (fun σ H R => i1 σ H R ∨ i2 σ H R) :=
  ⟨fun pins s σ H R I h => h.elim (h1.run pins s σ H R I) (h2.run pins s σ H R I)⟩
section
variable {K : PySem.W.Frag} {ca : String → Addr} {W : WX} {te : TE} {a : E}
theorem walk_enumT {a : Addr} {vs : List V} : Walk (IteT K a) vs.length (fun H => SqT K H a vs) (fun i H v H' => ∃ T x, v = .ref T ∧ H T = none ∧ H' = upd H T (.tup [.int (i : Nat), x]) ∧ ∀ xs, SqT K H a xs → xs[i]? = some x) :=
  ⟨fun i _ hi q => ⟨vs, vs[i]'hi, q, by simp [hi]⟩, fun _ q => ⟨vs, q, Nat.le_refl _⟩, fun _ _ _ _ _ _ y => y⟩
def wkET (A : Hs) (x : D) : Option Wk := (wkT A x).map fun k => ⟨enumL k.ds, k.gd⟩
theorem sw_enumT (h : SimE K ca W te a) : SimI K ca W (iEnumT K (tCons te tNil)) (wOf wkET a) := fun F m A σ H env Q R S p => wOf_bind h R S p fun F1 m1 A1 H1 x d kk R1 r hk p1 => by
  have main : ∀ {aa : Addr} {vs : List V} {l : List D}, SqT K F1 aa vs → RepL K ca F1 m1 vs l → kk = ⟨enumL l, tt⟩ → x = .ref aa → ∃ a xs, [x] = [.ref a] ∧ SqT K H1 a xs ∧ Q (IteT K a) H1 := fun {aa vs l} s rs e ex => by
    subst e; subst ex
    refine ⟨aa, vs, rfl, R1.fh.t s, p1 _ F1 m1 H1 R1 Stp.refl ⟨fun H => SqT K H aa vs, _, by rw [show (Wk.mk (enumL l) tt).ds.length = vs.length from enumL_len.trans rs.length.symm]; exact walk_enumT, fun F2 m2 A2 H2 hg R2 g2 => R2.fh.t (g2.ff.t s), fun i' d' x' F2 m2 A2 H2 H3 e hg R2 g2 y => .inr ?_⟩⟩
    obtain ⟨T, z, y1, y2, y3, y4⟩ := y
    obtain ⟨dx, q1, q2⟩ := enumL_get e
    obtain ⟨w, w1, w2⟩ := rs.get q1
    have := y4 _ (R2.fh.t (g2.ff.t s))
    rw [w1] at this; cases this
    exact ⟨T, _, _, q2, y1, y2, y3, .cons (.int _) (.cons (w2.mono g2.ff g2.mm) .nil)⟩
  cases r with
  | tup s rs => cases hk; exact main (.inl (.inl s)) rs rfl rfl
  | wt s rs => cases hk; exact main s rs rfl rfl
  | _ => cases hk
def wkEA (A : Hs) (x : D) : Option Wk := match x with
  | .tup _ => wkET A x
  | .wt _ => wkET A x
  | _ => wkE A x
def iEnumA (K : PySem.W.Frag) (ta : TA) : TI := fun σ H R => iEnum K ta σ H R ∨ iEnumT K ta σ H R
theorem sw_enumA (h : SimE K ca W te a) : SimI K ca W (iEnumA K (tCons te tNil)) (wOf wkEA a) := SimI.pick (sw_enum h) (sw_enumT h) (wOf_pick (f := wkEA) fun A x => by cases x <;> first | exact .inl rfl | exact .inr rfl)
theorem pi_enumA {X : Cx} {e : Expr} {ta : TA} {p pos tpos : Pos} {elts : List Expr} {kk : Nat} (hg : Gl X "enumerate") (hm : X.mg "enumerate" = none) (ha : PA X [e] ta) (hs : starEach [e] X.env = [(false, eval e X.env)] := by rfl) :
    PI X (.Tuple elts kk tpos) (.Call (.Name "enumerate" p) [e] [] pos) (iEnumA X.K ta) := PI.or (pi_enum hg hm ha hs) (pi_enumT hg hm ha hs)
theorem z26 {A : Hs} {i : Nat} : wkEA A (.ref i) = we_ A i A[i]? := z7h
theorem z29 {A : Hs} {l : List D} : wkEA A (.tup l) = some ⟨enumL l, tt⟩ := rfl
theorem z2n {A : Hs} {l : List D} : wkEA A (.scr l) = some ⟨enumL l, tt⟩ := rfl
end
end SM

/-! ## d.pop(k), d.pop(k, e) -/
namespace SM
open PySem L2
open DL (Ex ExK)
section
variable {K : PySem.W.Frag} {ca : String → Addr} {F F1 F2 H H1 H2 : Hp} {m m1 m2 : List Addr} {A A1 A2 : Hs} {σ : L2.St} {env : Sl} {W : WX} {Q : VK}
variable {to ti ta tb tc te tz : TE} {a b c e : E} {i : Nat} {d : D} {ts : TA} {as : As} {x y : V} {dx dy : D}
def oDPop (x y : D) (A : Hs) : RE D := match x with
  | .ref i => match A[i]? with
    | some (.dic false false l) => match keyK y, kget l y with
      | some _, some d => .ok d (A.set i (.dic false false (kdel l y)))
      | _, _ => .stuck
    | _ => .stuck
  | _ => .stuck
theorem dk_at {l : List (D × D)} {t : Nat} (R : Rl K ca F m A H) (rx : Rep K ca F m x (.ref t)) (hA : A[t]? = some (.dic false false l)) : ∃ a kvs, x = .ref a ∧ m[t]? = some a ∧ H a = some (.dK kvs) ∧ KvR K ca F m kD kvs l := by
  obtain ⟨a, e, ha, r⟩ := R.at hA rx
  obtain ⟨kvs, h1, h2⟩ := r
  exact ⟨a, kvs, e, ha, h1, h2⟩
theorem dk_drop {kk : Key} {l : List (D × D)} {t : Nat} {aa : Addr} {kvs : List (Key × V)} (R : Rl K ca F m A H) (ha : m[t]? = some aa) (h1 : H aa = some (.dK kvs)) (h2 : KvR K ca F m kD kvs l) : Rl K ca F m (A.set t (.dic false false (kdel l (kD kk)))) (upd H aa (.dK (dropK kvs kk))) ∧ Stp F m H F m (upd H aa (.dK (dropK kvs kk))) :=
  R.put (u := .dK (dropK kvs kk)) (o' := .dic false false (kdel l (kD kk))) ha (fun od w z => by rw [h1] at z; cases z) ⟨_, upd_same, kdel_rep keq_kD h2⟩
theorem kV_of {kk : Key} (r : Rep K ca F m y (kD kk)) : y = kV kk := by
  cases kk with
  | inl i => cases r; rfl
  | inr x => cases r; rfl
theorem dpop_at {t : Nat} (R : Rl K ca F m A H) (rx : Rep K ca F m x (.ref t)) (ry : Rep K ca F m y dy) (p : Po K ca (Rep K ca) F m H W σ Q (oDPop (.ref t) dy A)) : ∃ a kvs k v, x = .ref a ∧ H a = some (.dK kvs) ∧ y = kV k ∧ valV kvs k = some v ∧ Q v (upd H a (.dK (dropK kvs k))) := by
  unfold oDPop at p
  simp only at p
  cases hA : A[t]? with
  | none => simp only [hA] at p; exact p.elim
  | some o =>
    cases o with
    | lst _ => simp only [hA] at p; exact p.elim
    | obj _ _ => simp only [hA] at p; exact p.elim
    | dic tt lk l =>
      cases tt with
      | true => simp only [hA] at p; exact p.elim
      | false =>
        cases lk with
        | true => simp only [hA] at p; exact p.elim
        | false =>
          simp only [hA] at p
          cases z : keyK dy with
          | none => simp only [z] at p; exact p.elim
          | some kk =>
            simp only [z] at p
            have e2 := keyK_kD z
            subst e2
            cases g : kget l (kD kk) with
            | none => simp only [g] at p; exact p.elim
            | some dd =>
              simp only [g] at p
              obtain ⟨aa, kvs, e, ha, h1, h2⟩ := dk_at R rx hA
              obtain ⟨v, g1, g2⟩ := (kget_rep keq_kD (k := kk) h2).1 dd g
              obtain ⟨R2, s2⟩ := dk_drop (kk := kk) R ha h1 h2
              exact ⟨aa, kvs, kk, v, e, h1, kV_of ry, g1, p v F m _ R2 s2 g2⟩
def eDPop (a b : E) : E := fun env A => (a env A).bind fun x A1 => if isDic A1 x then (b env A1).bind fun y A2 => oDPop x y A2 else .stuck
theorem se_dpop (ho : SimE K ca W to a) (hi : SimE K ca W ti b) : SimE K ca W (tDPop1 to ti) (eDPop a b) := fun F m A σ H env Q R S p =>
  ho.bind R S p fun F1 m1 A1 H1 x dx R1 g1 S1 rx p1 => by
    by_cases q : isDic A1 dx = true
    · rw [if_pos q] at p1
      obtain ⟨aa, e1, h1⟩ := isD_of R1 rx q
      refine ⟨aa, e1, h1, hi.bind R1 S1 p1 fun F2 m2 A2 H2 y dy R2 g2 S2 ry p2 => ?_⟩
      cases dx with
      | ref t =>
        obtain ⟨a2, kvs, k, v, e2, q2⟩ := dpop_at R2 (rx.mono g2.ff g2.mm) ry p2
        rw [e1] at e2; cases e2
        exact ⟨kvs, k, v, q2⟩
      | _ => exact p2.elim
    · rw [if_neg q] at p1; exact p1.elim
def ePop1 (a b : E) : E := fun env A => (a env A).bind fun x A1 => if isDic A1 x then (b env A1).bind fun y A2 => oDPop x y A2 else if (seqL A1 x).isSome then ((aCons b aNil) env A1).bind fun ds A2 => oPopAt x ds A2 else .stuck
theorem se_pop1 (ho : SimE K ca W to a) (hi : SimE K ca W ti b) : SimE K ca W (fun σ H Q => tDPop1 to ti σ H Q ∨ tBM K "list" rPopAt to (tCons ti tNil) σ H Q) (ePop1 a b) := Sim.pick (se_dpop ho hi) (se_bl_ ms_popAt ho (sa_cons hi sa_nil)) fun env A => by
  unfold ePop1 eDPop eBL
  cases a env A with
  | ok x A1 =>
    simp only [RE.bind]
    by_cases q : isDic A1 x = true
    · left; rw [if_pos q, if_pos q]
    · right; rw [if_neg q]
  | exc _ _ => exact .inl rfl
  | stuck => exact .inl rfl
/-- with a way out -/
def oDPop2 (x y z : D) (A : Hs) : RE D := match x with
  | .ref i => match A[i]? with
    | some (.dic false false l) => match keyK y with
      | some _ => match kget l y with
        | some d => .ok d (A.set i (.dic false false (kdel l y)))
        | none => .ok z A
      | _ => .stuck
    | _ => .stuck
  | _ => .stuck
def eDPop2 (a b c : E) : E := fun env A => (a env A).bind fun x A1 => if isDic A1 x then (b env A1).bind fun y A2 => (c env A2).bind fun z A3 => oDPop2 x y z A3 else .stuck
end
section
variable {A : Hs} {env : Sl} {a b c : E} {i : Nat} {x y z d : D} {kv : List (D × D)} {l : List D} {fs : List (String × D)} {C : String} {t lk : Bool} {n : Nat}
def isd_ : Option O → Bool
  | some (.dic _ _ _) => true
  | _ => false
theorem z6w : isd_ (some (.dic t lk kv)) = true := rfl
theorem z73 : isd_ (some (.lst l)) = false := rfl
theorem z3c : isDic A (.ref i) = isd_ A[i]? := by
  unfold isDic dicAt
  rcases h : A[i]? with _ | u
  · simp only [h]; rfl
  · cases u <;> simp only [h] <;> rfl
theorem z1g : isDic A (.scr l) = false := rfl
theorem z53 : ePop1 a b env A = (a env A).bind fun x A1 => if isDic A1 x = true then (b env A1).bind fun y A2 => oDPop x y A2 else if (seqL A1 x).isSome = true then ((aCons b aNil) env A1).bind fun ds A2 => oPopAt x ds A2 else .stuck := rfl
theorem z2u : eDPop2 a b c env A = (a env A).bind fun x A1 => if isDic A1 x = true then (b env A1).bind fun y A2 => (c env A2).bind fun z A3 => oDPop2 x y z A3 else .stuck := rfl
def dp_ (A : Hs) (i : Nat) (y : D) (kv : List (D × D)) : Option D → RE D
  | some d => if (keyK y).isSome = true then .ok d (A.set i (.dic false false (kdel kv y))) else .stuck
  | none => .stuck
theorem z9c : dp_ A i y kv (some d) = if (keyK y).isSome = true then .ok d (A.set i (.dic false false (kdel kv y))) else .stuck := rfl
def dpo_ (A : Hs) (i : Nat) (y : D) : Option O → RE D
  | some (.dic false false kv) => dp_ A i y kv (kget kv y)
  | _ => .stuck
theorem z86 : dpo_ A i y (some (.dic false false kv)) = dp_ A i y kv (kget kv y) := rfl
theorem z3x : oDPop (.ref i) y A = dpo_ A i y A[i]? := by
  unfold oDPop dpo_ dp_
  rcases h : A[i]? with _ | u
  · simp only [h]
  · cases u with
    | dic t lk kv => cases t <;> cases lk <;> simp only [h] <;> (cases keyK y <;> cases kget kv y <;> rfl)
    | _ => simp only [h]
theorem z5q {p : Int} : keyK (.int p) = some (.inl p) := rfl
theorem z6c {s : Str} : keyK (.str s) = some (.inr s) := rfl
theorem z31 {s : String} : keyK (dS s) = some (.inr (fS s)) := rfl
/-- y in a list's, tuple's items -/
def inl_ (A : Hs) (y : D) (l : List D) (neg : Bool) : RE D := match pyA A 40 y, allSome (l.map (pyA A 39)) with
  | some p, some ps => .ok (.bl (if neg then !(ps.any fun z => PyData.eqv z p) else ps.any fun z => PyData.eqv z p)) A
  | _, _ => .stuck
def in_ (A : Hs) (y : D) (neg : Bool) : Option O → RE D
  | some (.dic t _ kv) => if keyOk t y = true then .ok (.bl (if neg then !(kget kv y).isSome else (kget kv y).isSome)) A else .stuck
  | some (.lst l) => inl_ A y l neg
  | _ => .stuck
theorem z99 {neg : Bool} : in_ A y neg (some (.dic t lk kv)) = if keyOk t y = true then .ok (.bl (if neg then !(kget kv y).isSome else (kget kv y).isSome)) A else .stuck := rfl
theorem z9n {neg : Bool} : in_ A y neg (some (.lst l)) = inl_ A y l neg := rfl
theorem inData_l (h : pyA A 40 x = (allSome (l.map (pyA A 39))).map PyData.list ∨ pyA A 40 x = (allSome (l.map (pyA A 39))).map PyData.tuple) : inData A y x = match pyA A 40 y, allSome (l.map (pyA A 39)) with
  | some p, some ps => some (ps.any fun z => PyData.eqv z p)
  | _, _ => none := by
  unfold inData
  rcases h with h | h <;> rw [h] <;> (cases pyA A 40 y <;> cases allSome (l.map (pyA A 39)) <;> rfl)
theorem z6t : oIn y (.ref i) A = in_ A y false A[i]? := by
  unfold oIn oB inA
  rcases h : A[i]? with _ | u
  · have : pyA A 40 (.ref i) = none := by rw [pyA]; simp only [h]
    simp only [dicAt, h, inData, this]; cases pyA A 40 y <;> rfl
  · cases u with
    | dic t lk kv => simp only [dicAt, h, inDic, z99]; cases keyOk t y <;> simp [Option.map]
    | lst l =>
      have := inData_l (A := A) (x := .ref i) (y := y) (l := l) (.inl (py_lst h))
      simp only [dicAt, h, this, z9n, inl_]
      cases pyA A 40 y <;> cases allSome (l.map (pyA A 39)) <;> rfl
    | obj C f =>
      have : pyA A 40 (.ref i) = none := by rw [pyA]; simp only [h]
      simp only [dicAt, h, inData, this]; cases pyA A 40 y <;> rfl
theorem z2k : oNotIn y (.ref i) A = in_ A y true A[i]? := by
  unfold oNotIn oB inA
  rcases h : A[i]? with _ | u
  · have : pyA A 40 (.ref i) = none := by rw [pyA]; simp only [h]
    simp only [dicAt, h, inData, this]; cases pyA A 40 y <;> rfl
  · cases u with
    | dic t lk kv => simp only [dicAt, h, inDic, z99]; cases keyOk t y <;> simp [Option.map]
    | lst l =>
      have := inData_l (A := A) (x := .ref i) (y := y) (l := l) (.inl (py_lst h))
      simp only [dicAt, h, this, z9n, inl_]
      cases pyA A 40 y <;> cases allSome (l.map (pyA A 39)) <;> rfl
    | obj C f =>
      have : pyA A 40 (.ref i) = none := by rw [pyA]; simp only [h]
      simp only [dicAt, h, inData, this]; cases pyA A 40 y <;> rfl
theorem z75 : oIn y (.tup l) A = inl_ A y l false := by
  have := inData_l (A := A) (x := .tup l) (y := y) (l := l) (.inr (by rw [pyA]))
  unfold oIn oB inA
  simp only [dicAt, this, inl_]
  cases pyA A 40 y <;> cases allSome (l.map (pyA A 39)) <;> rfl
theorem z2i : oNotIn y (.tup l) A = inl_ A y l true := by
  have := inData_l (A := A) (x := .tup l) (y := y) (l := l) (.inr (by rw [pyA]))
  unfold oNotIn oB inA
  simp only [dicAt, this, inl_]
  cases pyA A 40 y <;> cases allSome (l.map (pyA A 39)) <;> rfl
theorem py_ints {ns : List Int} : allSome ((ns.map D.int).map (pyA A n)) = some (ns.map PyData.int) := by
  induction ns with
  | nil => rfl
  | cons b r ih => rw [List.map_cons, List.map_cons, show pyA A n (.int b) = some (.int b) by cases n <;> simp [pyA], allSome, ih]; rfl
theorem z25 {ns : List Int} {p : Int} {neg : Bool} : inl_ A (.int p) (ns.map D.int) neg = .ok (.bl (if neg then !decide (p ∈ ns) else decide (p ∈ ns))) A := by
  unfold inl_
  rw [py_ints, show pyA A 40 (.int p) = some (.int p) by simp [pyA]]
  have : ((ns.map PyData.int).any fun z => PyData.eqv z (.int p)) = decide (p ∈ ns) := by
    rw [List.any_map]
    induction ns with
    | nil => rfl
    | cons b r ih =>
      rw [List.any_cons, ih]
      simp [PyData.eqv]
      congr 1
      rw [Bool.eq_iff_iff, beq_iff_eq, decide_eq_true_eq]; exact eq_comm
  simp only [this]
end
end SM

/-! ## more equations -/
namespace SM
open PySem L2
section
variable {A A1 A2 : Hs} {env : Sl} {a b c : E} {x y z d : D} {l : List D} {os xs : List String} {tb : List (String × String × Bool)} {s : String}
theorem z13 : oIsi os xs tb (dS s) (.ty "str") A = .ok (.bl true) A := rfl
theorem z0u : oIsi os xs tb (dS s) (.ty "int") A = .ok (.bl false) A := rfl
theorem z0f : oIsi os xs tb (dS s) (.ty "bool") A = .ok (.bl false) A := rfl
theorem z00 : oIsi os xs tb (dS s) (.ty "tuple") A = .ok (.bl false) A := rfl
/-- a comprehension by what stays true of what it has made -/
theorem lc_run {g : G} {t : Tt} {gd : Hs → Prop} (P : Nat → List D → Hs → Prop) {ds : List D} (h0 : P 0 [] A) (hl : ds.length < 16000000) (hg : ∀ i l A, P i l A → gd A)
    (hs : ∀ i d, ds[i]? = some d → ∀ l A, P i l A → Got (g d env A) fun e1 => Rk (t e1 A) (Tst (fun A1 => Rk (a e1 A1) fun v A2 => P (i + 1) (l ++ [v]) A2) fun A1 => P (i + 1) l A1)) : Rk (lcL g t a gd env ds [] A) (P ds.length) := by
  have main : ∀ (n i : Nat) (acc : List D) (A : Hs), n + i = ds.length → P i acc A → acc.length ≤ i → Rk (lcL g t a gd env (ds.drop i) acc A) (P ds.length) := by
    intro n
    induction n with
    | zero =>
      intro i acc A hi h0 hle
      have : i = ds.length := by omega
      subst this
      rw [List.drop_length, lcL, if_pos (hg _ _ _ h0)]; exact h0
    | succ n ih =>
      intro i acc A hi h0 hle
      have hlt : i < ds.length := by omega
      have h2 := hs i ds[i] (by simp [hlt]) acc A h0
      rw [List.drop_eq_getElem_cons hlt]
      cases q0 : g ds[i] env A with
      | none => rw [q0] at h2; exact h2.elim
      | some e1 =>
        rw [q0, z6r] at h2
        obtain ⟨c, A1, e, h3⟩ := h2.ex
        rw [lcL, if_pos (hg _ _ _ h0), q0]
        simp only [e]
        cases c with
        | false => exact ih (i + 1) acc A1 (by omega) h3 (by omega)
        | true =>
          obtain ⟨v, A2, e2, h4⟩ := Rk.ex h3
          simp only [e2]
          rw [if_pos (small_line' (by omega))]
          exact ih (i + 1) _ A2 (by omega) h4 (by rw [List.length_append, List.length_singleton]; omega)
  have := main ds.length 0 [] A rfl h0 (Nat.le_refl _)
  rwa [List.drop_zero] at this
def kset_ (y v : D) (kv : List (D × D)) : List (D × D) := kv.map fun p => if keq p.1 y then (p.1, v) else p
theorem z1s {v : D} : kset_ y v [] = [] := rfl
theorem z0t {v : D} {kv : List (D × D)} : kset_ y v ((x, z) :: kv) = (if keq x y = true then (x, v) else (x, z)) :: kset_ y v kv := rfl
theorem z2q : khas [] y = false := rfl
theorem z1c {kv : List (D × D)} : khas ((x, z) :: kv) y = if keq x y = true then true else khas kv y := by
  unfold khas; rw [List.any_cons]; cases keq x y <;> rfl
theorem z1v {v : D} : kput [] y v = [(y, v)] := rfl
theorem z1f {v : D} {kv : List (D × D)} : kput ((x, z) :: kv) y v = if khas ((x, z) :: kv) y = true then kset_ y v ((x, z) :: kv) else ((x, z) :: kv) ++ [(y, v)] := rfl
theorem z7s : dNil env A = .ok [] A := rfl
theorem z6b {k v : E} {r : Dps} : dCons k v r env A = (k env A).bind fun x A1 => (v env A1).bind fun y A2 => (r env A2).bind fun ps A3 => .ok ((x, y) :: ps) A3 := rfl
def dsp_ (A : Hs) (ps : List (D × D)) : RE D := if (ps.all fun p => (keyK p.1).isSome) && decide (ps.length ≤ 15) then alloc A (.dic false false (kmerge [] ps)) else .stuck
theorem z5i {d : Dps} : eDisp d env A = (d env A).bind fun ps A1 => dsp_ A1 ps := rfl
theorem z4p {ps : List (D × D)} (h : (ps.all fun p => (keyK p.1).isSome) = true) (hl : ps.length ≤ 15) : dsp_ A ps = .ok (.ref A.length) (A ++ [.dic false false (kmerge [] ps)]) := by
  unfold dsp_; rw [h, decide_eq_true hl]; rfl
theorem z0a {l : List (D × D)} : kmerge l [] = l := by rw [kmerge]
theorem z06 {l r : List (D × D)} {v : D} : kmerge l ((x, v) :: r) = kmerge (kput l x v) r := by rw [kmerge]
end
end SM

/-! ## min of four -/
namespace PySem
open Sem (wp)
section
variable {prog : Program} {w : World} {A : Around} {E : Value → Shared → Prop} {s : Shared}
end
end PySem
namespace SM
open PySem L2
section
variable {K : PySem.W.Frag} {ca : String → Addr}
def c4 (f : D → D → D → D → Hs → RE D) : List D → Hs → RE D := fun ds A => match ds with
  | [d, e, g, h] => f d e g h A
  | _ => .stuck
def oMin4 (x y z w : D) (A : Hs) : RE D := match x, y, z, w with
  | .int i, .int j, .int k, .int l => .ok (.int (min (min (min i j) k) l)) A
  | _, _, _, _ => .stuck
end
theorem c4_ {A : Hs} {d d1 d2 d3 : D} {f : D → D → D → D → Hs → RE D} : c4 f [d, d1, d2, d3] A = f d d1 d2 d3 A := rfl
theorem z3z {A : Hs} {p q r s : Int} : oMin4 (.int p) (.int q) (.int r) (.int s) A = .ok (.int (min (min (min p q) r) s)) A := rfl
def ad_ (A : Hs) : Option (List D) → Option (List D) → RE D
  | some l, some k => if l.length + k.length ≤ sizeLine then .ok (.ref A.length) (A ++ [.lst (l ++ k)]) else .stuck
  | _, _ => .stuck
theorem z8h {A : Hs} {l k : List D} (h : l.length + k.length ≤ 16000000) : ad_ A (some l) (some k) = .ok (.ref A.length) (A ++ [.lst (l ++ k)]) := by
  show (if l.length + k.length ≤ sizeLine then _ else _) = _
  rw [if_pos (z0g h)]
theorem z5y {A : Hs} {i j : Nat} : oAdd (.ref i) (.ref j) A = ad_ A (sq_ A[i]?) (sq_ A[j]?) := by
  unfold oAdd ad_ sq_
  simp only
  rcases A[i]? with _ | u
  · rfl
  · cases u with
    | lst l =>
      rcases A[j]? with _ | v
      · rfl
      · cases v <;> rfl
    | _ => rfl
/-- a statement that goes on, by what holds of it -/
def Nx (r : RS) (P : Sl → Hs → Prop) : Prop := match r with
  | .nx e A => P e A
  | _ => False
theorem z71 {e : Sl} {A : Hs} {P : Sl → Hs → Prop} : Nx (.nx e A) P = P e A := rfl
theorem Nx.call {r : RS} {P : Sl → Hs → Prop} (Q : RS → Prop) (h : Nx r P) (k : ∀ e A, P e A → Q (.nx e A)) : Q r := by
  cases r with
  | nx e A => exact k e A h
  | _ => exact h.elim
theorem rep_nS {n : Nat} : List.replicate (n + 1) (none : Option D) = none :: List.replicate n none := rfl
theorem rep_n0 : List.replicate 0 (none : Option D) = [] := rfl
end SM

/-! ## list.index of flat items -/
namespace SM
open PySem L2
open DL (Ex ExK)
def fV : D → Option V
  | .non => some .non
  | .bl b => some (.bl b)
  | .int i => some (.int i)
  | .str s => some (.str s)
  | _ => none
def fVs : List D → Option (List V)
  | [] => some []
  | d :: r => match fV d, fVs r with
    | some v, some vs => some (v :: vs)
    | _, _ => none
section
variable {K : PySem.W.Frag} {ca : String → Addr} {F : Hp} {m : List Addr}
end
/-- the first place of y -/
def idxV (y : V) : List V → Option Nat
  | [] => none
  | z :: r => if eqV z y = true then some 0 else (idxV y r).map (· + 1)
def oIndex (x : D) (ds : List D) (A : Hs) : RE D := match (seqL A x).bind fVs, ds with
  | some ws, [d] => match fV d with
    | some y => match idxV y ws with
      | some j => .ok (.int (j : Nat)) A
      | none => .stuck
    | none => .stuck
  | _, _ => .stuck
section
variable {K : PySem.W.Frag} {ca : String → Addr}
end
/-! equations -/
section
variable {A : Hs} {x y d : D} {i : Nat} {l : List D}
def ix3 (A : Hs) (y : V) : Option (List V) → RE D
  | some ws => at_ A ((idxV y ws).map fun j => .int (j : Nat))
  | none => .stuck
theorem z2l {b : Bool} : oIndex (.ref i) [.bl b] A = ix3 A (.bl b) ((sq_ A[i]?).bind fVs) := by
  unfold oIndex ix3; rw [z6e]
  cases (sq_ A[i]?).bind fVs with
  | none => rfl
  | some ws => simp only [fV]; cases idxV (V.bl b) ws <;> rfl
theorem z20 {n : Int} : oIndex (.ref i) [.int n] A = ix3 A (.int n) ((sq_ A[i]?).bind fVs) := by
  unfold oIndex ix3; rw [z6e]
  cases (sq_ A[i]?).bind fVs with
  | none => rfl
  | some ws => simp only [fV]; cases idxV (V.int n) ws <;> rfl
theorem z7b {y : V} {ws : List V} : ix3 A y (some ws) = at_ A ((idxV y ws).map fun j => .int (j : Nat)) := rfl
theorem z32 : fVs [] = some [] := rfl
theorem z7v {b : Bool} {r : List D} : fVs (.bl b :: r) = (fVs r).map (V.bl b :: ·) := by
  conv => lhs; unfold fVs
  simp only [fV]; cases fVs r <;> rfl
theorem z78 {b : Int} {r : List D} : fVs (.int b :: r) = (fVs r).map (V.int b :: ·) := by
  conv => lhs; unfold fVs
  simp only [fV]; cases fVs r <;> rfl
theorem z1r {y : V} : idxV y [] = none := rfl
theorem z5l {b c : Bool} {r : List V} : idxV (.bl c) (.bl b :: r) = if b = c then some 0 else (idxV (.bl c) r).map (· + 1) := by
  rw [idxV]; cases b <;> cases c <;> rfl
end
/-! try, count -/
section
variable {A A1 : Hs} {env e1 : Sl} {d : D} {i j : Nat} {C : String} {cts : List String} {b s : S}
def tryK_ (cts : List String) (i j : Nat) (r : RS) : RS := match r with
  | .exc C env1 A1 => if C ∈ cts then .nx (((env1.set i (some (.exc C))).set j (some (.exc C))).set i none) A1 else .stuck
  | r => r
theorem z58 : sTryK cts i j b env A = tryK_ cts i j (b env A) := rfl
theorem z4g : tryK_ cts i j (.nx env A) = .nx env A := rfl
theorem z4a : tryK_ cts i j (.rt d A) = .rt d A := rfl
theorem z2h (h : C ∈ cts) : tryK_ cts i j (.exc C env A) = .nx (((env.set i (some (.exc C))).set j (some (.exc C))).set i none) A := if_pos h
def tryO_ (cts : List String) (s : S) (r : RS) : RS := match r with
  | .exc C env1 A1 => if C ∈ cts then s env1 A1 else .stuck
  | r => r
theorem z5g : sTryO cts b s env A = tryO_ cts s (b env A) := rfl
theorem z42 : tryO_ cts s (.nx env A) = .nx env A := rfl
theorem z45 : tryO_ cts s (.rt d A) = .rt d A := rfl
theorem z1z (h : C ∈ cts) : tryO_ cts s (.exc C env A) = s env A := if_pos h
def cn_ (A : Hs) (c : Bool) : Option (List Bool) → RE D
  | some bs => .ok (.int (bs.count c : Nat)) A
  | none => .stuck
theorem z1q {c : Bool} : oCount (.ref i) [.bl c] A = cn_ A c ((sq_ A[i]?).bind boolsOf) := by
  unfold oCount; rw [z6e]; cases (sq_ A[i]?).bind boolsOf <;> rfl
theorem z9j {c : Bool} {bs : List Bool} : cn_ A c (some bs) = .ok (.int (bs.count c : Nat)) A := rfl
theorem z4z : boolsOf [] = some [] := rfl
theorem z3i {c : Bool} {r : List D} : boolsOf (.bl c :: r) = (boolsOf r).map (c :: ·) := rfl
theorem z46 {c : Bool} : List.count c [] = 0 := rfl
theorem z1x {c b : Bool} {r : List Bool} : List.count c (b :: r) = List.count c r + (if b = c then 1 else 0) := by
  rw [List.count_cons]; cases b <;> cases c <;> rfl
end
/-! a, b, c = x, y, z -/
def sPar3 (i j l : Nat) (as : As) : S := fun env A => match as env A with
  | .ok [x, y, z] A1 => .nx (((env.set i (some x)).set j (some y)).set l (some z)) A1
  | .exc C A1 => .exc C env A1
  | _ => .stuck
section
variable {K : PySem.W.Frag} {ca : String → Addr} {W : WX} {i j l : Nat} {as : As} {ts : TA} {A : Hs} {env : Sl} {x y z : D}
def par3_ (env : Sl) (i j l : Nat) (r : RE (List D)) : RS := match r with
  | .ok [x, y, z] A1 => .nx (((env.set i (some x)).set j (some y)).set l (some z)) A1
  | .exc C A1 => .exc C env A1
  | _ => .stuck
theorem z5p : sPar3 i j l as env A = par3_ env i j l (as env A) := rfl
theorem z3g : par3_ env i j l (.ok [x, y, z] A) = .nx (((env.set i (some x)).set j (some y)).set l (some z)) A := rfl
end
/-! tuple(range(n)) -/
def eTupRg (a : E) : E := fun env A => (a env A).bind fun x A1 => match x with
  | .int n => if 0 ≤ n ∧ n ≤ 16777216 then .ok (.tup (rgL 0 1 n.toNat)) A1 else .stuck
  | _ => .stuck
section
variable {K : PySem.W.Frag} {ca : String → Addr} {W : WX} {te : TE} {a : E} {A : Hs} {n : Int}
def tupRg_ (A : Hs) : D → RE D
  | .int n => if 0 ≤ n ∧ n ≤ 16777216 then .ok (.tup (rgL 0 1 n.toNat)) A else .stuck
  | _ => .stuck
theorem z4f {env : Sl} : eTupRg a env A = (a env A).bind fun x A1 => tupRg_ A1 x := by
  unfold eTupRg tupRg_; rfl
theorem z3j (h : 0 ≤ n ∧ n ≤ 16777216) : tupRg_ A (.int n) = .ok (.tup (rgL 0 1 n.toNat)) A := if_pos h
end
/-- a def that has a second name -/
theorem Dx.of2 {P : Program} {w : World} {K : PySem.W.Frag} {mg : Str → Option Value} {base : Heap} {k : Nat} {x x0 qn : Str} {st : Stmt} {fa : Addr} {fd : FuncData} {ps : List Str} {sp : Sp} (h : FnOk P w K mg base (L2.CX P w) k fa fd ps sp) (F : Fun K x0 qn st fa fd) (hm : mg x = some (.ref fa)) (b : Binds K fd ps []) : DL.Dx P w K mg base k x sp := ⟨fa, fd, ps, h, hm, F.kp, b⟩
end SM

/-! ## defs with defaults -/
namespace L2
open PySem PySem.Spec PyProof.Rows
section
variable {X : Cx} {CX : CXT} {k : Nat} {f C : Addr} {fd : FuncData} {ps : List Str} {sp : Sp} {E : St → XK} {x : Str} {p pos : Pos} {e : Expr} {es : List Expr} {t : TA} {ds : List Value} {dvs : List V}
end
end L2
namespace DL
open PySem L2
/-- a class whose __init__ is called with its defaults dvs -/
structure MxD (P : Program) (w : World) (K : PySem.W.Frag) (mg : Str → Option Value) (base : Heap) (k : Nat) (x : Str) (C : Addr) (sp : Sp) (dvs : List V) : Prop where
  ex : ∃ (f : Addr) (fd : FuncData) (ps : List Str) (ds : List Value), Mk K C f ∧ FnOk P w K mg base (L2.CX P w) k f fd ps sp ∧ mg x = some (.ref C) ∧ Binds K fd ps ds ∧ Vals dvs ds
theorem MxD.of {P : Program} {w : World} {K : PySem.W.Frag} {mg : Str → Option Value} {base : Heap} {k : Nat} {x : Str} {C fa : Addr} {fd : FuncData} {ps : List Str} {sp : Sp} {dvs : List V} (M : Mk K C fa) (h : FnOk P w K mg base (L2.CX P w) k fa fd ps sp) (hm : mg x = some (.ref C)) (b : ∃ ds, Vals dvs ds ∧ Binds K fd ps ds) : MxD P w K mg base k x C sp dvs := by
  obtain ⟨ds, v, b⟩ := b
  exact ⟨fa, fd, ps, ds, M, h, hm, b, v⟩
theorem MxD.full {P : Program} {w : World} {K : PySem.W.Frag} {mg : Str → Option Value} {base : Heap} {k : Nat} {x : Str} {C : Addr} {sp : Sp} (h : MxD P w K mg base k x C sp []) : Mx P w K mg base k x C sp := by
  obtain ⟨fa, fd, ps, ds, M, h, hm, b, v⟩ := h.ex
  cases v
  exact ⟨fa, fd, ps, M, h, hm, b⟩
section
variable {X : Cx} {W : WX} {k j : Nat} {x : Str} {C : Addr} {sp : Sp} {p pos : Pos} {e : Expr} {es : List Expr} {t : TA} {dvs : List V}
end
end DL
namespace SM
open PySem L2
open DL (Ex ExK)
section
variable {K : PySem.W.Frag} {ca : String → Addr} {W : WX} {as : As} {ts : TA} {C : String} {f : Fn} {A : Hs} {env : Sl} {l : List D}
def eMakeD (C : String) (f : Fn) (dd : List D) (as : As) : E := fun env A => (as env A).bind fun ds A1 => make C f (ds ++ dd) A1
def eMakeD0 (C : String) (f : Fn) (dd : List D) (as : As) : E := fun env A => (as env A).bind fun ds A1 => (make C f (ds ++ dd) A1).noX
theorem z3t {dd : List D} : eMakeD C f dd as env A = (as env A).bind fun ds A1 => make C f (ds ++ dd) A1 := rfl
theorem z28 {dd : List D} : eMakeD0 C f dd as env A = (as env A).bind fun ds A1 => (make C f (ds ++ dd) A1).noX := rfl
end
section
variable {P : Program} {w : World} {K : PySem.W.Frag} {mg : Str → Option Value} {base : Heap} {ca : String → Addr} {x qn : Str} {st : Stmt} {fa : Addr} {fd : FuncData} {N ps : List Str} {k : Nat}
end
end SM

/-! ## t[::e] of a tuple, e = 1 or -1 -/
namespace SM
open PySem L2 PySem.Spec PyProof.Rows
section
variable {prog : Program} {w : World} {A : Around} {E : Value → Shared → Prop} {s : Shared}
end
section
open DL (Ex ExK)
variable {K : PySem.W.Frag} {ca : String → Addr} {W : WX} {ta tb : TE} {a b : E}
def oStT (x y : D) (A : Hs) : RE D := match seqT x with
  | some l => match y with
    | .int i => if i = 1 then .ok x A else if i = -1 then .ok (.tup l.reverse) A else .stuck
    | _ => .stuck
  | _ => .stuck
theorem z5k {l : List D} {A : Hs} : oStT (.tup l) (.int 1) A = .ok (.tup l) A := rfl
theorem z4q {l : List D} {A : Hs} : oStT (.tup l) (.int (-1)) A = .ok (.tup l.reverse) A := rfl
end
end SM

/-! ## text * 0, text * 1 -/
namespace L2
open PySem PySem.Spec PyProof.Rows
end L2
namespace SM
open PySem L2
open DL (Ex ExK)
section
variable {K : PySem.W.Frag} {ca : String → Addr}
def oMulS (x y : D) (A : Hs) : RE D := match x, y with
  | .str s, .int i => if i = 1 then .ok (.str s) A else if i = 0 then .ok (.str Str.empty) A else .stuck
  | _, _ => .stuck
end
theorem z3m {A : Hs} {s : String} : oMulS (dS s) (.int 1) A = .ok (dS s) A := rfl
theorem z48 {A : Hs} {s : String} : oMulS (dS s) (.int 0) A = .ok (dS "") A := rfl
section
variable {A : Hs} {env : Sl} {o a e : E} {i : Nat} {x y z d : D} {kv : List (D × D)} {t lk : Bool}
theorem z5f : eGet2 o a e env A = (o env A).bind fun x A1 => if isDic A1 x = true then (a env A1).bind fun y A2 => (e env A2).bind fun z A3 => ofO A3 (getD A3 x y z) else .stuck := rfl
def gD_ (y z : D) : Option O → Option D
  | some (.dic t _ kv) => if keyOk t y = true then some ((kget kv y).getD z) else none
  | _ => none
theorem z5t : getD A (.ref i) y z = gD_ y z A[i]? := by
  unfold getD gD_ dicAt
  rcases h : A[i]? with _ | u
  · simp only [h]
  · cases u <;> simp only [h]
theorem z8q : gD_ y z (some (.dic t lk kv)) = if keyOk t y = true then some ((kget kv y).getD z) else none := rfl
theorem z82 {α : Type} {d : α} : ofO A (some d) = .ok d A := rfl
end
def oL_ (r : RE D) (x : D) (A : Hs) : Option (List D) → RE D
  | some l => if l.isEmpty = true then r else .ok x A
  | none => .stuck
theorem z72 {A : Hs} {env : Sl} {a b : E} : eOrL a b env A = (a env A).bind fun x A1 => oL_ (b env A1) x A1 (seqL A1 x) := by
  unfold eOrL
  cases a env A with
  | ok x A1 =>
    simp only [RE.bind]
    cases seqL A1 x <;> rfl
  | exc _ _ => rfl
  | stuck => rfl
theorem z8u {r : RE D} {x : D} {A : Hs} {l : List D} : oL_ r x A (some l) = if l.isEmpty = true then r else .ok x A := rfl
/-! len(set(xs)) of ints -/
def eLenSet (a : E) : E := fun env A => (a env A).bind fun x A1 => match (seqL A1 x).bind intsOf with
  | some ns => if ns.length ≤ 4000 then .ok (.int (L2.unlike ns : Nat)) A1 else .stuck
  | none => .stuck
def lnS_ (A : Hs) : Option (List Int) → RE D
  | some ns => if ns.length ≤ 4000 then .ok (.int (L2.unlike ns : Nat)) A else .stuck
  | none => .stuck
theorem z1p {a : E} {env : Sl} {A : Hs} : eLenSet a env A = (a env A).bind fun x A1 => lnS_ A1 ((seqL A1 x).bind intsOf) := by
  unfold eLenSet lnS_; rfl
theorem z7z {A : Hs} {ns : List Int} (h : ns.length ≤ 4000) : lnS_ A (some ns) = .ok (.int (L2.unlike ns : Nat)) A := if_pos h
/-- a def that is called by no run -/
theorem Dx.never {P : Program} {w : World} {K : PySem.W.Frag} {mg : Str → Option Value} {base : Heap} {ca : String → Addr} {k : Nat} {x x0 qn : Str} {st : Stmt} {fa : Addr} {fd : FuncData} {ps : List Str} (F : Fun K x0 qn st fa fd) (hm : mg x = some (.ref fa)) (b : Binds K fd ps []) : DL.Dx P w K mg base k x (SpF K ca fun _ _ => .stuck) := by
  refine ⟨fa, fd, ps, ⟨fun vs H Q E h => ?_, fun A outer s H args us vs Q E _ _ _ _ h => ?_⟩, hm, F.kp, b⟩
  · obtain ⟨_, _, _, _, _, _, p⟩ := h; exact p.elim
  · obtain ⟨_, _, _, _, _, _, p⟩ := h; exact p.elim
end SM

namespace Kk
open PySem L2 SM
def os_ : List String := ["Giver", "Taker"]
def xs_ : List String := ["NoData", "NoNumber", "NoSize", "NoTick"]
def tb_ : List (String × String × Bool) := [("Giver", "bool", false), ("Giver", "int", false), ("Giver", "tuple", false), ("Taker", "bool", false), ("Taker", "int", false), ("Taker", "tuple", false), ("NoData", "bool", false), ("NoData", "int", false), ("NoData", "tuple", false), ("NoNumber", "bool", false), ("NoNumber", "int", false), ("NoNumber", "tuple", false), ("NoSize", "bool", false), ("NoSize", "int", false), ("NoSize", "tuple", false), ("NoTick", "bool", false), ("NoTick", "int", false), ("NoTick", "tuple", false)]
/- slots of Giver.again: 0=self 1=tick -/
noncomputable def F_Giver_again : Fn := mkFn 2 2
  (sSeq (sIf (tOo (tOf (eOp oIs (eFld ["Giver"] "since" (eVar 0)) (eC .non))) (tOf (eOp oLt (eOp oSub (eVar 1) (eFld ["Giver"] "since" (eVar 0))) (eFld ["Giver"] "wait" (eVar 0))))) (sRet (eLst aNil)) sNx) (sSeq (sFl ["Giver"] "wait" (eVar 0) (eCB (c2 oMin2) (aCons (eOp oMul (eC (.int 2)) (eFld ["Giver"] "wait" (eVar 0))) (aCons (eOp oMul (eC (.int 16)) (eFld ["Giver"] "first_wait" (eVar 0))) aNil)))) (sSeq (sFl ["Giver"] "since" (eVar 0) (eVar 1)) (sSeq (sFlAug ["Giver"] "tried" oIAdd (eVar 0) (eC (.int 1))) (sSeq (sFl ["Giver"] "pace" (eVar 0) (eFld ["Giver"] "most" (eVar 0))) (sRet (eLst (aCons (eTup (aCons (eFld ["Giver"] "base" (eVar 0)) (aCons (eCB (c1 oTuple) (aCons (eSl oSl (eFld ["Giver"] "kept" (eVar 0)) oNo (oSo (eCB (c2 oMin2) (aCons (eFld ["Giver"] "most" (eVar 0)) (aCons (eFld ["Giver"] "sent" (eVar 0)) aNil))))) aNil)) aNil))) aNil))))))))
/- slots of Giver.is_counted: 0=self -/
noncomputable def F_Giver_is_counted : Fn := mkFn 1 1
  (sRet (eOr (eOp oGt (eFld ["Giver"] "sent" (eVar 0)) (eC (.int 0))) (eAnd (eOp oGt (eCB (c1 oLen) (aCons (eFld ["Giver"] "kept" (eVar 0)) aNil)) (eC (.int 0))) (eOp oEq (eFld ["Giver"] "reach" (eVar 0)) (eC (.int 0))))))
/- slots of Giver.count: 0=self 1=tick -/
noncomputable def F_Giver_count : Fn := mkFn 2 2
  (sIf (tNo (tOf (eMeth "is_counted" [("Giver", F_Giver_is_counted)] (eVar 0) aNil))) (sFl ["Giver"] "since" (eVar 0) (eC .non)) (sIf (tOf (eOp oIs (eFld ["Giver"] "since" (eVar 0)) (eC .non))) (sFl ["Giver"] "since" (eVar 0) (eVar 1)) sNx))
/- slots of is_number: 0=thing 1=least -/
noncomputable def F_is_number : Fn := mkFn 2 2
  (sRet (eAnd (eCB (c2 (oIsi os_ xs_ tb_)) (aCons (eVar 0) (aCons (eC (.ty "int")) aNil))) (eAnd (eNot (eCB (c2 (oIsi os_ xs_ tb_)) (aCons (eVar 0) (aCons (eC (.ty "bool")) aNil)))) (eOp oGe (eVar 0) (eVar 1)))))
/- slots of Giver.need_tick: 0=self 1=tick -/
noncomputable def F_Giver_need_tick : Fn := mkFn 2 2
  (sSeq (sIf (tNo (tOf (eCall F_is_number (aCons (eVar 1) (aCons (eFld ["Giver"] "now" (eVar 0)) aNil))))) (sRaise "NoTick") sNx) (sFl ["Giver"] "now" (eVar 0) (eVar 1)))
/- slots of need_number: 0=number 1=size -/
noncomputable def F_need_number : Fn := mkFn 2 2
  (sIf (tOo (tNo (tOf (eCB (c2 (oIsi os_ xs_ tb_)) (aCons (eVar 0) (aCons (eC (.ty "int")) aNil))))) (tOo (tOf (eCB (c2 (oIsi os_ xs_ tb_)) (aCons (eVar 0) (aCons (eC (.ty "bool")) aNil)))) (tNo (tOf (eCh oLe oLt (eC (.int 0)) (eVar 0) (eVar 1)))))) (sRaise "NoNumber") sNx)
/- slots of need_size: 0=size -/
noncomputable def F_need_size : Fn := mkFn 1 1
  (sIf (tOo (tNo (tOf (eCB (c2 (oIsi os_ xs_ tb_)) (aCons (eVar 0) (aCons (eC (.ty "int")) aNil))))) (tOo (tOf (eCB (c2 (oIsi os_ xs_ tb_)) (aCons (eVar 0) (aCons (eC (.ty "bool")) aNil)))) (tNo (tOf (eCh oLe oLe (eC (.int 2)) (eVar 0) (eC (.int 4294967296))))))) (sRaise "NoSize") sNx)
/- slots of moved: 0=number 1=by 2=size -/
noncomputable def F_moved : Fn := mkFn 3 3
  (sSeq (sDrop (eCall F_need_size (aCons (eVar 2) aNil))) (sSeq (sDrop (eCall F_need_number (aCons (eVar 0) (aCons (eVar 2) aNil)))) (sRet (eOp oMod (eOp oAdd (eVar 0) (eVar 1)) (eVar 2)))))
/- slots of Giver.next_number: 0=self -/
noncomputable def F_Giver_next_number : Fn := mkFn 1 1
  (sRet (eCall F_moved (aCons (eFld ["Giver"] "base" (eVar 0)) (aCons (eFld ["Giver"] "sent" (eVar 0)) (aCons (eC (.int 4294967296)) aNil)))))
/- slots of Giver.due: 0=self 1=tick 2=found 3=end 4=many -/
noncomputable def F_Giver_due : Fn := mkFn 2 5
  (sSeq (sDrop (eMeth "need_tick" [("Giver", F_Giver_need_tick)] (eVar 0) (aCons (eVar 1) aNil))) (sSeq (sDrop (eMeth "count" [("Giver", F_Giver_count)] (eVar 0) (aCons (eVar 1) aNil))) (sSeq (sSet 2 (eMeth "again" [("Giver", F_Giver_again)] (eVar 0) (aCons (eVar 1) aNil))) (sSeq (sSet 3 (eCB (c3 oMin3) (aCons (eCB (c1 oLen) (aCons (eFld ["Giver"] "kept" (eVar 0)) aNil)) (aCons (eFld ["Giver"] "reach" (eVar 0)) (aCons (eFld ["Giver"] "pace" (eVar 0)) aNil))))) (sSeq (sWh (tOf (eOp oLt (eFld ["Giver"] "sent" (eVar 0)) (eVar 3))) (sSeq (sSet 4 (eCB (c2 oMin2) (aCons (eFld ["Giver"] "most" (eVar 0)) (aCons (eOp oSub (eVar 3) (eFld ["Giver"] "sent" (eVar 0))) aNil)))) (sSeq (sDrop (eBL oAppend (eVar 2) (aCons (eTup (aCons (eMeth "next_number" [("Giver", F_Giver_next_number)] (eVar 0) aNil) (aCons (eCB (c1 oTuple) (aCons (eSl oSl (eFld ["Giver"] "kept" (eVar 0)) (oSo (eFld ["Giver"] "sent" (eVar 0))) (oSo (eOp oAdd (eFld ["Giver"] "sent" (eVar 0)) (eVar 4)))) aNil)) aNil))) aNil))) (sFlAug ["Giver"] "sent" oIAdd (eVar 0) (eVar 4))))) (sSeq (sDrop (eMeth "count" [("Giver", F_Giver_count)] (eVar 0) (aCons (eVar 1) aNil))) (sRet (eVar 2))))))))
/- slots of Giver.finish: 0=self -/
noncomputable def F_Giver_finish : Fn := mkFn 1 1
  (sSeq (sIf (tNo (tOf (eFld ["Giver"] "finished" (eVar 0)))) (sDrop (eBL oAppend (eFld ["Giver"] "kept" (eVar 0)) (aCons (eC (dS "e")) aNil))) sNx) (sFl ["Giver"] "finished" (eVar 0) (eC (.bl true))))
/- slots of far: 0=one 1=other 2=size -/
noncomputable def F_far : Fn := mkFn 3 3
  (sSeq (sDrop (eCall F_need_size (aCons (eVar 2) aNil))) (sSeq (sDrop (eCall F_need_number (aCons (eVar 0) (aCons (eVar 2) aNil)))) (sSeq (sDrop (eCall F_need_number (aCons (eVar 1) (aCons (eVar 2) aNil)))) (sRet (eOp oMod (eOp oSub (eVar 1) (eVar 0)) (eVar 2))))))
/- slots of Giver.heard: 0=self 1=answer 2=room 3=tick 4=many -/
noncomputable def F_Giver_heard : Fn := mkFn 4 5
  (sSeq (sDrop (eMeth "need_tick" [("Giver", F_Giver_need_tick)] (eVar 0) (aCons (eVar 3) aNil))) (sSeq (sSet 4 (eCall F_far (aCons (eFld ["Giver"] "base" (eVar 0)) (aCons (eVar 1) (aCons (eC (.int 4294967296)) aNil))))) (sSeq (sIf (tOf (eOp oGt (eVar 4) (eFld ["Giver"] "sent" (eVar 0)))) (sRet (eC (.bl false))) sNx) (sSeq (sFl ["Giver"] "tried" (eVar 0) (eC (.int 0))) (sSeq (sFl ["Giver"] "base" (eVar 0) (eVar 1)) (sSeq (sFl ["Giver"] "kept" (eVar 0) (eSl oSl (eFld ["Giver"] "kept" (eVar 0)) (oSo (eVar 4)) oNo)) (sSeq (sFlAug ["Giver"] "sent" oSub (eVar 0) (eVar 4)) (sSeq (sFlAug ["Giver"] "passed" oIAdd (eVar 0) (eVar 4)) (sSeq (sFl ["Giver"] "reach" (eVar 0) (eCB (c2 oMax2) (aCons (eOp oSub (eFld ["Giver"] "reach" (eVar 0)) (eVar 4)) (aCons (eVar 2) aNil)))) (sSeq (sIf (tOf (eOp oGt (eVar 4) (eC (.int 0)))) (sSeq (sFl ["Giver"] "wait" (eVar 0) (eFld ["Giver"] "first_wait" (eVar 0))) (sSeq (sFl ["Giver"] "since" (eVar 0) (eC .non)) (sFl ["Giver"] "pace" (eVar 0) (eCB (c2 oMin2) (aCons (eC (.int 512)) (aCons (eOp oAdd (eFld ["Giver"] "pace" (eVar 0)) (eFld ["Giver"] "most" (eVar 0))) aNil)))))) sNx) (sSeq (sDrop (eMeth "count" [("Giver", F_Giver_count)] (eVar 0) (aCons (eVar 3) aNil))) (sRet (eC (.bl true))))))))))))))
/- slots of is_whole: 0=thing 1=least 2=most -/
noncomputable def F_is_whole : Fn := mkFn 3 3
  (sRet (eAnd (eCB (c2 (oIsi os_ xs_ tb_)) (aCons (eVar 0) (aCons (eC (.ty "int")) aNil))) (eAnd (eNot (eCB (c2 (oIsi os_ xs_ tb_)) (aCons (eVar 0) (aCons (eC (.ty "bool")) aNil)))) (eCh oLe oLe (eVar 1) (eVar 0) (eVar 2)))))
/- slots of is_data: 0=thing 1=byte -/
noncomputable def F_is_data : Fn := mkFn 1 2
  (sSeq (sIf (tOo (tNo (tOf (eCB (c2 (oIsi os_ xs_ tb_)) (aCons (eVar 0) (aCons (eC (.ty "tuple")) aNil))))) (tOf (eOp oGt (eCB (c1 oLen) (aCons (eVar 0) aNil)) (eC (.int 1000))))) (sRet (eC (.bl false))) sNx) (sRet (eCB (c1 oAll) (aCons (eLc (wSeq (eVar 0)) (gN 1) tYe (eCall0 F_is_whole (aCons (eVar 1) (aCons (eC (.int 0)) (aCons (eC (.int 255)) aNil)))) [1]) aNil))))
/- slots of Giver.write: 0=self 1=data 2=many 3=item -/
noncomputable def F_Giver_write : Fn := mkFn 2 4
  (sSeq (sIf (tNo (tOf (eCall F_is_data (aCons (eVar 1) aNil)))) (sRaise "NoData") sNx) (sSeq (sIf (tOf (eFld ["Giver"] "finished" (eVar 0))) (sRet (eC (.int 0))) sNx) (sSeq (sSet 2 (eCB (c2 oMin2) (aCons (eCB (c1 oLen) (aCons (eVar 1) aNil)) (aCons (eOp oSub (eC (.int 512)) (eCB (c1 oLen) (aCons (eLc (wSeq (eFld ["Giver"] "kept" (eVar 0))) (gN 3) (tOf (eOp oNe (eVar 3) (eC (dS "o")))) (eVar 3) [3]) aNil))) aNil)))) (sSeq (sDrop (eBL oExtend (eFld ["Giver"] "kept" (eVar 0)) (aCons (eSl oSl (eVar 1) oNo (oSo (eVar 2))) aNil))) (sRet (eVar 2))))))
/- slots of is_within: 0=thing 1=least 2=most -/
noncomputable def F_is_within : Fn := mkFn 3 3
  (sRet (eAnd (eCB (c2 (oIsi os_ xs_ tb_)) (aCons (eVar 0) (aCons (eC (.ty "int")) aNil))) (eAnd (eNot (eCB (c2 (oIsi os_ xs_ tb_)) (aCons (eVar 0) (aCons (eC (.ty "bool")) aNil)))) (eCh oLe oLe (eVar 1) (eVar 0) (eVar 2)))))
/- slots of Taker.read: 0=self 1=many 2=found -/
noncomputable def F_Taker_read : Fn := mkFn 2 3
  (sSeq (sIf (tNo (tOf (eCall F_is_within (aCons (eVar 1) (aCons (eC (.int 0)) (aCons (eVar 1) aNil)))))) (sRaise "NoNumber") sNx) (sSeq (sSet 2 (eSl oSl (eFld ["Taker"] "unread" (eVar 0)) oNo (oSo (eVar 1)))) (sSeq (sFl ["Taker"] "unread" (eVar 0) (eSl oSl (eFld ["Taker"] "unread" (eVar 0)) (oSo (eVar 1)) oNo)) (sRet (eVar 2)))))
/- slots of Taker.come_ready: 0=self 1=item -/
noncomputable def F_Taker_come_ready : Fn := mkFn 2 2
  (sSeq (sFl ["Taker"] "wanted" (eVar 0) (eCall F_moved (aCons (eFld ["Taker"] "wanted" (eVar 0)) (aCons (eC (.int 1)) (aCons (eC (.int 4294967296)) aNil))))) (sIf (tOf (eOp oEq (eVar 1) (eC (dS "e")))) (sSeq (sFl ["Taker"] "over" (eVar 0) (eC (.bl true))) (sFl ["Taker"] "ahead" (eVar 0) (eDNew false))) (sIf (tOf (eOp oNe (eVar 1) (eC (dS "o")))) (sFl ["Taker"] "unread" (eVar 0) (eOp oAdd (eFld ["Taker"] "unread" (eVar 0)) (eTup (aCons (eVar 1) aNil)))) sNx)))
/- slots of Taker.free: 0=self -/
noncomputable def F_Taker_free : Fn := mkFn 1 1
  (sRet (eOp oSub (eFld ["Taker"] "whole_room" (eVar 0)) (eCB (c1 oLen) (aCons (eFld ["Taker"] "unread" (eVar 0)) aNil))))
/- slots of Taker.wants: 0=self -/
noncomputable def F_Taker_wants : Fn := mkFn 1 1
  (sRet (eTup (aCons (eFld ["Taker"] "wanted" (eVar 0)) (aCons (eMeth "free" [("Taker", F_Taker_free)] (eVar 0) aNil) aNil))))
/- slots of Taker.take: 0=self 1=number 2=items 3=wanted 4=free 5=step 6=item 7=place -/
noncomputable def F_Taker_take : Fn := mkFn 3 8
  (sSeq (sIf (tOf (eFld ["Taker"] "over" (eVar 0))) sRetN sNx) (sSeq (sAsg (eMeth "wants" [("Taker", F_Taker_wants)] (eVar 0) aNil) (gT [(gN 3), (gN 4)])) (sSeq (sFor (wOf wkEA (eVar 2)) (gT [(gN 5), (gN 6)]) (sSeq (sSet 7 (eCall F_moved (aCons (eVar 1) (aCons (eVar 5) (aCons (eC (.int 4294967296)) aNil))))) (sIf (tAn (tOf (eOp oLt (eCall F_far (aCons (eVar 3) (aCons (eVar 7) (aCons (eC (.int 4294967296)) aNil)))) (eVar 4))) (tOf (eOp oNotIn (eVar 7) (eFld ["Taker"] "ahead" (eVar 0))))) (sPut (eFld ["Taker"] "ahead" (eVar 0)) (eVar 7) (eVar 6)) sNx))) (sWh (tAn (tOf (eOp oIn (eFld ["Taker"] "wanted" (eVar 0)) (eFld ["Taker"] "ahead" (eVar 0)))) (tNo (tOf (eFld ["Taker"] "over" (eVar 0))))) (sDrop (eMeth "come_ready" [("Taker", F_Taker_come_ready)] (eVar 0) (aCons (ePop1 (eFld ["Taker"] "ahead" (eVar 0)) (eFld ["Taker"] "wanted" (eVar 0))) aNil)))))))
/- slots of _law_brought: 0=_law_world_here 1=_law_thing_here -/
noncomputable def F_l_brought : Fn := mkFn 2 2
  (sIf (tOf (eOp oIsNot (eVar 1) (eC .non))) (sSeq (sDrop (eMeth "take" [("Taker", F_Taker_take)] (eOp oDGet (eVar 0) (eC (dS "taker"))) (aCons (eOp oIx (eVar 1) (eC (.int 0))) (aCons (eOp oIx (eVar 1) (eC (.int 1))) aNil)))) (sDrop (eBL oAppend (eOp oDGet (eVar 0) (eC (dS "back"))) (aCons (eMeth "wants" [("Taker", F_Taker_wants)] (eOp oDGet (eVar 0) (eC (dS "taker"))) aNil) aNil)))) sNx)
/- slots of _law_mixed: 0=_law_cell 1=_law_k 2=_law_mix -/
noncomputable def F_l_mixed : Fn := mkFn 2 3
  (sSeq (sSet 2 (eOp oMod (eOp oMul (eOp oAdd (eOp oAdd (eVar 0) (eOp oMul (eC (.int 7919)) (eVar 1))) (eC (.int 11))) (eC (.int 48271))) (eC (.int 2147483647)))) (sRet (eOp oMod (eOp oAdd (eOp oMul (eVar 2) (eVar 2)) (eOp oMul (eC (.int 40692)) (eVar 2))) (eC (.int 2147483399)))))
/- slots of _law_next: 0=_law_draw_here 1=_law_size 2=_law_digit -/
noncomputable def F_l_next : Fn := mkFn 2 3
  (sSeq (sIf (tAn (tOf (eOp oLt (eOp oIx (eVar 0) (eC (.int 1))) (eC (.int 0)))) (tOf (eOp oGt (eOp oIx (eVar 0) (eC (.int 0))) (eC (.int 0))))) (sSeq (sSet 2 (eOp oMod (eOp oIx (eVar 0) (eC (.int 0))) (eVar 1))) (sSeq (sPut (eVar 0) (eC (.int 0)) (eOp oDiv (eOp oIx (eVar 0) (eC (.int 0))) (eVar 1))) (sRet (eVar 2)))) sNx) (sSeq (sIf (tOf (eOp oLt (eOp oIx (eVar 0) (eC (.int 1))) (eC (.int 0)))) (sSeq (sPut (eVar 0) (eC (.int 0)) (eOp oIx (eVar 0) (eC (.int 2)))) (sPut (eVar 0) (eC (.int 1)) (eOp oIx (eVar 0) (eC (.int 3))))) sNx) (sSeq (sLAugP oIAdd (eVar 0) (eC (.int 1)) (eC (.int 1))) (sRet (eOp oMod (eOp oDiv (eCall F_l_mixed (aCons (eOp oIx (eVar 0) (eC (.int 0))) (aCons (eOp oIx (eVar 0) (eC (.int 1))) aNil))) (eC (.int 7))) (eVar 1))))))
/- slots of _law_pick: 0=_law_draw_here 1=_law_some -/
noncomputable def F_l_pick : Fn := mkFn 2 2
  (sRet (eOp oIx (eVar 1) (eCall F_l_next (aCons (eVar 0) (aCons (eCB (c1 oLen) (aCons (eVar 1) aNil)) aNil)))))
/- slots of _law_thing: 0=_law_draw_here 1=_law_road 2=_law_at 3=_law_thing_here -/
noncomputable def F_l_thing : Fn := mkFn 2 4
  (sSeq (sIf (tOf (eOp oEq (eVar 1) (eLst aNil))) (sRet (eC .non)) sNx) (sSeq (sSet 2 (eCall F_l_next (aCons (eVar 0) (aCons (eCB (c1 oLen) (aCons (eVar 1) aNil)) aNil)))) (sSeq (sSet 3 (eOp oIx (eVar 1) (eVar 2))) (sSeq (sIf (tOf (eOp oGt (eCall F_l_next (aCons (eVar 0) (aCons (eC (.int 3)) aNil))) (eC (.int 0)))) (sDrop (ePop1 (eVar 1) (eVar 2))) sNx) (sRet (eVar 3))))))
/- slots of _law_deed: 0=_law_world_here 1=_law_draw_here 2=_law_kind 3=_law_size 4=_law_data 5=_law_k 6=_law_many 7=_law_road 8=_law_answer -/
noncomputable def F_l_deed : Fn := mkFn 2 9
  (sSeq (sSet 2 (eCall F_l_pick (aCons (eVar 1) (aCons (eLst (aCons (eC (.int 0)) (aCons (eC (.int 1)) (aCons (eC (.int 1)) (aCons (eC (.int 2)) (aCons (eC (.int 2)) (aCons (eC (.int 2)) (aCons (eC (.int 3)) (aCons (eC (.int 4)) (aCons (eC (.int 4)) (aCons (eC (.int 5)) (aCons (eC (.int 6)) (aCons (eC (.int 7)) aNil))))))))))))) aNil)))) (sSeq (sIf (tOf (eOp oEq (eVar 2) (eC (.int 0)))) (sSeq (sSet 3 (eCall F_l_pick (aCons (eVar 1) (aCons (eLst (aCons (eC (.int 1)) (aCons (eC (.int 2)) (aCons (eC (.int 3)) (aCons (eC (.int 7)) (aCons (eC (.int 40)) (aCons (eC (.int 0)) aNil))))))) aNil)))) (sSeq (sSet 4 (eCB (c1 oTuple) (aCons (eLc (wAs rg1 (aCons (eVar 3) aNil)) (gN 5) tYe (eCall0 F_l_next (aCons (eVar 1) (aCons (eC (.int 256)) aNil))) [5]) aNil))) (sSeq (sSet 6 (eMeth "write" [("Giver", F_Giver_write)] (eOp oDGet (eVar 0) (eC (dS "giver"))) (aCons (eVar 4) aNil))) (sSeq (sIf (tOo (tNo (tOf (eCh oLe oLe (eC (.int 0)) (eVar 6) (eVar 3)))) (tAn (tOf (eOp oGt (eOp oDGet (eVar 0) (eC (dS "ended"))) (eC (.int 0)))) (tOf (eOp oGt (eVar 6) (eC (.int 0)))))) (sRet (eC (.bl false))) sNx) (sPut (eVar 0) (eC (dS "written")) (eOp oAdd (eOp oDGet (eVar 0) (eC (dS "written"))) (eSl oSl (eVar 4) oNo (oSo (eVar 6))))))))) (sIf (tOf (eOp oEq (eVar 2) (eC (.int 1)))) (sDrop (eBL oExtend (eOp oDGet (eVar 0) (eC (dS "there"))) (aCons (eMeth "due" [("Giver", F_Giver_due)] (eOp oDGet (eVar 0) (eC (dS "giver"))) (aCons (eOp oDGet (eVar 0) (eC (dS "tick"))) aNil)) aNil))) (sIf (tOf (eOp oEq (eVar 2) (eC (.int 2)))) (sDrop (eCall F_l_brought (aCons (eVar 0) (aCons (eCall F_l_thing (aCons (eVar 1) (aCons (eOp oDGet (eVar 0) (eC (dS "there"))) aNil))) aNil)))) (sIf (tOf (eOp oEq (eVar 2) (eC (.int 3)))) (sSeq (sSet 7 (eOp oIx (eLst (aCons (eOp oDGet (eVar 0) (eC (dS "there"))) (aCons (eOp oDGet (eVar 0) (eC (dS "back"))) aNil))) (eCall F_l_next (aCons (eVar 1) (aCons (eC (.int 2)) aNil))))) (sIf (tOf (eOp oNe (eVar 7) (eLst aNil))) (sDrop (ePop1 (eVar 7) (eCall F_l_next (aCons (eVar 1) (aCons (eCB (c1 oLen) (aCons (eVar 7) aNil)) aNil))))) sNx)) (sIf (tOf (eOp oEq (eVar 2) (eC (.int 4)))) (sSeq (sSet 8 (eCall F_l_thing (aCons (eVar 1) (aCons (eOp oDGet (eVar 0) (eC (dS "back"))) aNil)))) (sIf (tOf (eOp oIsNot (eVar 8) (eC .non))) (sDrop (eMeth "heard" [("Giver", F_Giver_heard)] (eOp oDGet (eVar 0) (eC (dS "giver"))) (aCons (eOp oIx (eVar 8) (eC (.int 0))) (aCons (eOp oIx (eVar 8) (eC (.int 1))) (aCons (eOp oDGet (eVar 0) (eC (dS "tick"))) aNil))))) sNx)) (sIf (tOf (eOp oEq (eVar 2) (eC (.int 5)))) (sPut (eVar 0) (eC (dS "got")) (eOp oAdd (eOp oDGet (eVar 0) (eC (dS "got"))) (eMeth "read" [("Taker", F_Taker_read)] (eOp oDGet (eVar 0) (eC (dS "taker"))) (aCons (eCall F_l_pick (aCons (eVar 1) (aCons (eLst (aCons (eC (.int 1)) (aCons (eC (.int 0)) (aCons (eC (.int 3)) (aCons (eC (.int 128)) aNil))))) aNil))) aNil)))) (sIf (tOf (eOp oEq (eVar 2) (eC (.int 6)))) (sDAugP oIAdd (eVar 0) (eC (dS "tick")) (eCall F_l_pick (aCons (eVar 1) (aCons (eLst (aCons (eC (.int 1)) (aCons (eC (.int 2)) (aCons (eC (.int 5)) (aCons (eC (.int 70)) aNil))))) aNil)))) (sIf (tOf (eOp oEq (eCall F_l_next (aCons (eVar 1) (aCons (eC (.int 3)) aNil))) (eC (.int 0)))) (sSeq (sDrop (eMeth "finish" [("Giver", F_Giver_finish)] (eOp oDGet (eVar 0) (eC (dS "giver"))) aNil)) (sPut (eVar 0) (eC (dS "ended")) (eC (.int 1)))) sNx)))))))) (sRet (eC (.bl true)))))
/- slots of _law_draw: 0=_law_script 1=_law_k 2=_law_count 3=_law_cell 4=_law_mixed_here -/
noncomputable def F_l_draw : Fn := mkFn 3 5
  (sSeq (sSet 3 (eC (.int 0))) (sSeq (sIf (tOf (eOp oLt (eVar 1) (eCB (c1 oLen) (aCons (eVar 0) aNil)))) (sSet 3 (eOp oIx (eVar 0) (eVar 1))) sNx) (sSeq (sSet 4 (eCall F_l_mixed (aCons (eVar 3) (aCons (eOp oAdd (eC (.int 300)) (eVar 1)) aNil)))) (sSeq (sIf (tOf (eOp oEq (eOp oMod (eVar 3) (eC (.int 2))) (eC (.int 0)))) (sRet (eLst (aCons (eOp oDiv (eVar 3) (eC (.int 2))) (aCons (eUn oNeg (eC (.int 1))) (aCons (eVar 4) (aCons (eVar 2) aNil)))))) sNx) (sRet (eLst (aCons (eVar 4) (aCons (eVar 2) (aCons (eVar 4) (aCons (eVar 2) aNil))))))))))
/- slots of Giver.answered: 0=self -/
noncomputable def F_Giver_answered : Fn := mkFn 1 1
  (sRet (eFld ["Giver"] "passed" (eVar 0)))
/- slots of Giver.left: 0=self -/
noncomputable def F_Giver_left : Fn := mkFn 1 1
  (sRet (eCB (c1 oLen) (aCons (eFld ["Giver"] "kept" (eVar 0)) aNil)))
/- slots of Taker.ended: 0=self -/
noncomputable def F_Taker_ended : Fn := mkFn 1 1
  (sRet (eFld ["Taker"] "over" (eVar 0)))
/- slots of Taker.ready: 0=self -/
noncomputable def F_Taker_ready : Fn := mkFn 1 1
  (sRet (eCB (c1 oLen) (aCons (eFld ["Taker"] "unread" (eVar 0)) aNil)))
/- slots of _law_right: 0=_law_world_here 1=_law_giver 2=_law_taker 3=_law_come -/
noncomputable def F_l_right : Fn := mkFn 1 4
  (sSeq (sPar 1 2 (aCons (eOp oDGet (eVar 0) (eC (dS "giver"))) (aCons (eOp oDGet (eVar 0) (eC (dS "taker"))) aNil))) (sSeq (sIf (tOo (tOf (eOp oNe (eOp oDGet (eVar 0) (eC (dS "got"))) (eSl oSl (eOp oDGet (eVar 0) (eC (dS "written"))) oNo (oSo (eCB (c1 oLen) (aCons (eOp oDGet (eVar 0) (eC (dS "got"))) aNil)))))) (tOf (eOp oNe (eOp oIx (eMeth "wants" [("Taker", F_Taker_wants)] (eVar 2) aNil) (eC (.int 1))) (eOp oSub (eOp oDGet (eVar 0) (eC (dS "room"))) (eMeth "ready" [("Taker", F_Taker_ready)] (eVar 2) aNil))))) (sRet (eC (.bl false))) sNx) (sSeq (sSet 3 (eOp oMod (eOp oSub (eOp oIx (eMeth "wants" [("Taker", F_Taker_wants)] (eVar 2) aNil) (eC (.int 0))) (eOp oDGet (eVar 0) (eC (dS "first")))) (eOp oPow (eC (.int 2)) (eC (.int 32))))) (sSeq (sIf (tOf (eOp oNe (eVar 3) (eOp oAdd (eOp oAdd (eOp oAdd (eCB (c2 oMax2) (aCons (eC (.int 0)) (aCons (eCB (c2 oMin2) (aCons (eVar 3) (aCons (eC (.int 1)) aNil))) aNil))) (eCB (c1 oLen) (aCons (eOp oDGet (eVar 0) (eC (dS "got"))) aNil))) (eMeth "ready" [("Taker", F_Taker_ready)] (eVar 2) aNil)) (eCB (c1 oInt) (aCons (eMeth "ended" [("Taker", F_Taker_ended)] (eVar 2) aNil) aNil))))) (sRet (eC (.bl false))) sNx) (sSeq (sIf (tOo (tNo (tOf (eCh oLe oLe (eC (.int 0)) (eMeth "ready" [("Taker", F_Taker_ready)] (eVar 2) aNil) (eOp oDGet (eVar 0) (eC (dS "room")))))) (tOf (eOp oGt (eMeth "answered" [("Giver", F_Giver_answered)] (eVar 1) aNil) (eVar 3)))) (sRet (eC (.bl false))) sNx) (sRet (eOp oEq (eOp oAdd (eMeth "answered" [("Giver", F_Giver_answered)] (eVar 1) aNil) (eMeth "left" [("Giver", F_Giver_left)] (eVar 1) aNil)) (eOp oAdd (eOp oAdd (eC (.int 1)) (eCB (c1 oLen) (aCons (eOp oDGet (eVar 0) (eC (dS "written"))) aNil))) (eOp oDGet (eVar 0) (eC (dS "ended")))))))))))
/- slots of _law_through: 0=_law_world_here 1=_law_giver 2=_law_taker 3=_law_k 4=_law_number 5=_law_items -/
noncomputable def F_l_through : Fn := mkFn 1 6
  (sSeq (sPar 1 2 (aCons (eOp oDGet (eVar 0) (eC (dS "giver"))) (aCons (eOp oDGet (eVar 0) (eC (dS "taker"))) aNil))) (sSeq (sFor (wAs rg1 (aCons (eOp oMul (eOp oMul (eOp oAdd (eMeth "left" [("Giver", F_Giver_left)] (eVar 1) aNil) (eC (.int 8))) (eC (.int 17))) (eOp oDGet (eVar 0) (eC (dS "wait")))) aNil)) (gN 3) (sIf (tOo (tOf (eOp oGt (eMeth "left" [("Giver", F_Giver_left)] (eVar 1) aNil) (eC (.int 0)))) (tOf (eOp oLt (eCB (c1 oLen) (aCons (eOp oDGet (eVar 0) (eC (dS "got"))) aNil)) (eCB (c1 oLen) (aCons (eOp oDGet (eVar 0) (eC (dS "written"))) aNil))))) (sSeq (sDAugP oIAdd (eVar 0) (eC (dS "tick")) (eC (.int 1))) (sSeq (sFor (wSeq (eMeth "due" [("Giver", F_Giver_due)] (eVar 1) (aCons (eOp oDGet (eVar 0) (eC (dS "tick"))) aNil))) (gT [(gN 4), (gN 5)]) (sSeq (sDrop (eMeth "take" [("Taker", F_Taker_take)] (eVar 2) (aCons (eVar 4) (aCons (eVar 5) aNil)))) (sDrop (eMeth "heard" [("Giver", F_Giver_heard)] (eVar 1) (aCons (eOp oIx (eMeth "wants" [("Taker", F_Taker_wants)] (eVar 2) aNil) (eC (.int 0))) (aCons (eOp oIx (eMeth "wants" [("Taker", F_Taker_wants)] (eVar 2) aNil) (eC (.int 1))) (aCons (eOp oDGet (eVar 0) (eC (dS "tick"))) aNil))))))) (sPut (eVar 0) (eC (dS "got")) (eOp oAdd (eOp oDGet (eVar 0) (eC (dS "got"))) (eMeth "read" [("Taker", F_Taker_read)] (eVar 2) (aCons (eC (.int 128)) aNil)))))) sNx)) (sRet (eAnd (eOp oEq (eMeth "left" [("Giver", F_Giver_left)] (eVar 1) aNil) (eC (.int 0))) (eAnd (eOp oEq (eOp oDGet (eVar 0) (eC (dS "got"))) (eOp oDGet (eVar 0) (eC (dS "written")))) (eOp oEq (eMeth "ended" [("Taker", F_Taker_ended)] (eVar 2) aNil) (eOp oEq (eOp oDGet (eVar 0) (eC (dS "ended"))) (eC (.int 1)))))))))
/- slots of Giver.__init__: 0=self 1=first 2=most 3=wait -/
noncomputable def F_Giver___init__ : Fn := mkFn 4 4
  (sSeq (sIf (tOo (tNo (tOf (eCall F_is_number (aCons (eVar 1) (aCons (eC (.int 0)) aNil))))) (tOo (tOf (eOp oGe (eVar 1) (eC (.int 4294967296)))) (tOo (tNo (tOf (eCall F_is_number (aCons (eVar 2) (aCons (eC (.int 1)) aNil))))) (tOf (eOp oGt (eVar 2) (eC (.int 200))))))) (sRaise "NoNumber") sNx) (sSeq (sIf (tNo (tOf (eCall F_is_number (aCons (eVar 3) (aCons (eC (.int 1)) aNil))))) (sRaise "NoNumber") sNx) (sSeq (sFl ["Giver"] "base" (eVar 0) (eVar 1)) (sSeq (sFl ["Giver"] "most" (eVar 0) (eVar 2)) (sSeq (sFl ["Giver"] "first_wait" (eVar 0) (eVar 3)) (sSeq (sFl ["Giver"] "wait" (eVar 0) (eVar 3)) (sSeq (sFl ["Giver"] "kept" (eVar 0) (eLst (aCons (eC (dS "o")) aNil))) (sSeq (sFl ["Giver"] "sent" (eVar 0) (eC (.int 0))) (sSeq (sFl ["Giver"] "reach" (eVar 0) (eC (.int 1))) (sSeq (sFl ["Giver"] "pace" (eVar 0) (eVar 2)) (sSeq (sFl ["Giver"] "since" (eVar 0) (eC .non)) (sSeq (sFl ["Giver"] "tried" (eVar 0) (eC (.int 0))) (sSeq (sFl ["Giver"] "passed" (eVar 0) (eC (.int 0))) (sSeq (sFl ["Giver"] "finished" (eVar 0) (eC (.bl false))) (sFl ["Giver"] "now" (eVar 0) (eC (.int 0)))))))))))))))))
/- slots of Taker.__init__: 0=self 1=first 2=room -/
noncomputable def F_Taker___init__ : Fn := mkFn 3 3
  (sSeq (sIf (tOo (tNo (tOf (eCall F_is_within (aCons (eVar 1) (aCons (eC (.int 0)) (aCons (eOp oSub (eC (.int 4294967296)) (eC (.int 1))) aNil)))))) (tNo (tOf (eCall F_is_within (aCons (eVar 2) (aCons (eC (.int 1)) (aCons (eC (.int 128)) aNil))))))) (sRaise "NoNumber") sNx) (sSeq (sFl ["Taker"] "wanted" (eVar 0) (eVar 1)) (sSeq (sFl ["Taker"] "whole_room" (eVar 0) (eVar 2)) (sSeq (sFl ["Taker"] "ahead" (eVar 0) (eDNew false)) (sSeq (sFl ["Taker"] "unread" (eVar 0) (eTup aNil)) (sFl ["Taker"] "over" (eVar 0) (eC (.bl false))))))))
/- slots of _law_first: 0=_law_draw_here -/
noncomputable def F_l_first : Fn := mkFn 1 1
  (sRet (eOp oIx (eLst (aCons (eC (.int 0)) (aCons (eCall F_l_next (aCons (eVar 0) (aCons (eOp oPow (eC (.int 2)) (eC (.int 32))) aNil))) (aCons (eOp oSub (eOp oSub (eOp oPow (eC (.int 2)) (eC (.int 32))) (eC (.int 1))) (eCall F_l_next (aCons (eVar 0) (aCons (eC (.int 60)) aNil)))) aNil)))) (eCall F_l_next (aCons (eVar 0) (aCons (eC (.int 3)) aNil)))))
/- slots of _law_world: 0=_law_script 1=_law_draw_here 2=_law_first_here 3=_law_most 4=_law_wait 5=_law_room -/
noncomputable def F_l_world : Fn := mkFn 1 6
  (sSeq (sSet 1 (eCall F_l_draw (aCons (eVar 0) (aCons (eC (.int 0)) (aCons (eC (.int 0)) aNil))))) (sSeq (sSet 2 (eCall F_l_first (aCons (eVar 1) aNil))) (sSeq (sSet 3 (eCall F_l_pick (aCons (eVar 1) (aCons (eLst (aCons (eC (.int 1)) (aCons (eC (.int 2)) (aCons (eC (.int 3)) (aCons (eC (.int 32)) (aCons (eC (.int 200)) aNil)))))) aNil)))) (sSeq (sSet 4 (eCall F_l_pick (aCons (eVar 1) (aCons (eLst (aCons (eC (.int 1)) (aCons (eC (.int 2)) (aCons (eC (.int 4)) aNil)))) aNil)))) (sSeq (sSet 5 (eCall F_l_pick (aCons (eVar 1) (aCons (eLst (aCons (eC (.int 1)) (aCons (eC (.int 2)) (aCons (eC (.int 5)) (aCons (eC (.int 16)) (aCons (eC (.int 128)) aNil)))))) aNil)))) (sRet (eDisp (dCons (eC (dS "giver")) (eMake "Giver" F_Giver___init__ (aCons (eVar 2) (aCons (eVar 3) (aCons (eVar 4) aNil)))) (dCons (eC (dS "taker")) (eMake "Taker" F_Taker___init__ (aCons (eVar 2) (aCons (eVar 5) aNil))) (dCons (eC (dS "wait")) (eVar 4) (dCons (eC (dS "room")) (eVar 5) (dCons (eC (dS "first")) (eVar 2) (dCons (eC (dS "tick")) (eC (.int 0)) (dCons (eC (dS "there")) (eLst aNil) (dCons (eC (dS "back")) (eLst aNil) (dCons (eC (dS "written")) (eTup aNil) (dCons (eC (dS "got")) (eTup aNil) (dCons (eC (dS "ended")) (eC (.int 0)) dNil))))))))))))))))))
/- slots of law: 0=_law_script 1=_law_world_here 2=_law_k -/
noncomputable def F_law : Fn := mkFn 1 3
  (sSeq (sSet 1 (eCall0 F_l_world (aCons (eVar 0) aNil))) (sSeq (sFor (wAs rg2 (aCons (eC (.int 1)) (aCons (eCB (c2 oMin2) (aCons (eC (.int 63)) (aCons (eCB (c1 oLen) (aCons (eVar 0) aNil)) aNil))) aNil))) (gN 2) (sIf (tOo (tNo (tOf (eCall0 F_l_deed (aCons (eVar 1) (aCons (eCall0 F_l_draw (aCons (eVar 0) (aCons (eVar 2) (aCons (eC (.int 0)) aNil)))) aNil))))) (tNo (tOf (eCall0 F_l_right (aCons (eVar 1) aNil))))) (sRet (eC (.bl false))) sNx)) (sRet (eAnd (eCall0 F_l_through (aCons (eVar 1) aNil)) (eCall0 F_l_right (aCons (eVar 1) aNil))))))
end Kk
namespace Kk
open PySem L2 SM
local macro_rules
  | `(tactic| simp_arith [$xs,*] $[$loc]?) => `(tactic| simp (disch := (first | omega | assumption | (simp only [List.length_set, List.length_append, List.length_cons, List.length_nil, List.length_map, List.length_take, List.length_drop, List.length_reverse, List.length_replicate, List.length_range] <;> omega) | (intro; omega) | (simp only [List.all_cons, List.all_nil, z31, z5q, Option.isSome_some, Bool.and_true, Bool.and_self]; done) | decide)) only [z3p, z2o, z0e, z4v, z2y, z62, z60, eC_, z8m, z8n, z7x, z4m, z96, z6d, z44, c1_, c2_, c3_, z6h, z5a, z6j, z8s, z7c, z8t, z8k, z97, z9l, z8v, z8z, z9a, z74, z7g, z0g, z63, z90, z4o, z9m, z8o, z7j, z65, z52, z3f, z6a, z5o, z0w, z8l, z8d, z98, z3w, z67, z35, z57, z3e, z4y, z7e, z56, z87, z6s, z2c, z7o, gN_, z59, z2b, z0y, z7t, z64, z6o, z6p, z79, z68, z5j, z33, z1m, z6u, z6g, z7y, z51, z4i, z4j, z4u, z5u, z54, z4w, z5m, z4l, z4r, z7p, z6i, z81, z80, z4n, z2w, z49, z36, z4k, z5s, z76, z6x, z37, z4b, z7i, z6k, z2v, z0i, z5h, z16, z15, z1i, z21, z0v, z11, z17, z27, z1e, z12, z0j, z19, z08, z0p, z0d, z1a, z03, z0h, z1h, z0c, z0z, z04, z0s, z0k, z01, z0l, z10, z07, z1l, z0m, z02, z1d, z2p, z2j, z1o, z5v, z50, z24, z3a, z6f, z2e, z77, z9e, z2g, z3r, z2d, z0x, z3q, z1k, z66, z3l, z4t, z39, z3t, z28, z6y, z3n, z3d, z5c, z5e, z0r, z3y, z3o, z8b, z84, z5b, z6l, z3u, z8a, z7f, z9d, z4h, z30, z2z, z8w, z9k, z8y, z2x, z41, z3b, z34, z1y, z7l, z88, z9h, z6e, z3s, z7k, z8x, z43, z93, z2m, z9p, z2a, z9r, z2s, z2f, z1b, z9f, z94, z9q, z55, z1n, z8e, z70, z2t, z47, z9u, z7q, z38, z4d, z1j, z5d, z8c, z1t, z0n, z9i, z0q, z0o, z89, z0b, z91, z2r, z3h, z8i, z9s, z8j, z5n, z8g, z95, z9t, z3v, z8f, z4e, z8p, z7d, z92, z7h, z9o, z5w, z9b, z5r, z4c, z05, z09, z8r, z3k, z7m, z9g, z7u, z1w, z18, z85, z7n, z6z, z1u, z14, z23, z4s, z6m, z83, z7a, z7w, z7r, z69, z6n, z6v, z6q, z6r, z26, z29, z2n, z6w, z73, z3c, z1g, z53, z2u, z9c, z86, z3x, z5q, z6c, z31, z99, z9n, z6t, z2k, z75, z2i, z25, z13, z0u, z0f, z00, z1s, z0t, z2q, z1c, z1v, z1f, z7s, z6b, z5i, z4p, z0a, z06, c4_, z3z, z8h, z5y, z4f, z3j, z5p, z3g, z2l, z20, z7b, z32, z7v, z78, z1r, z5l, z58, z4g, z4a, z2h, z5g, z42, z45, z1z, z1q, z9j, z4z, z3i, z46, z1x, z71, z5x, z61, z5z, z4x, z40, z22, z5k, z4q, z3m, z48, z5f, z5t, z8q, z82, z72, z8u, z1p, z7z, List.all_cons, List.all_nil, Bool.and_true, if_pos, if_neg, if_true, if_false, ite_true, ite_false, Bool.false_eq_true, Bool.true_eq_false, Bool.not_true, Bool.not_false, Bool.not_eq_true', decide_eq_true_eq, decide_eq_false_iff_not, Bool.not_eq_true, decide_true, decide_false, List.length_cons, List.length_nil, List.map_cons, List.map_nil, List.cons_append, List.nil_append, List.length_map, rep_nS, rep_n0, List.append_nil, List.mem_cons, List.mem_singleton, List.not_mem_nil, or_false, false_or, true_or, or_true, and_true, true_and, and_false, false_and, Option.isSome_some, Option.isSome_none, Option.isNone_none, Option.isNone_some, String.reduceEq, String.reduceNe, Nat.reduceAdd, Nat.reduceSub, Nat.reduceLT, Nat.reduceLeDiff, Nat.reduceMul, Int.reduceAdd, Int.reduceSub, Int.reduceMul, Int.reduceLT, Int.reduceLE, Int.reduceGT, Int.reduceEq, Int.reduceToNat, Int.reducePow, Int.reduceNeg, Nat.reduceEqDiff, eq_self, eq_self_iff_true, not_true_eq_false, not_false_eq_true, List.getElem?_cons_zero, List.getElem?_cons_succ, Option.bind_some, ne_eq, reduceCtorEq, Int.reduceDiv, Int.reduceMod, Bool.and_self, reduceIte, $xs,*] $[$loc]?)
local macro_rules
  | `(tactic| walk_at "fr!") => `(tactic| (repeat (first | exact Fr.refl | assumption | refine Fr.then_push ?_ | refine Fr.then_set ?_ (by first | exact Or.inr (Nat.le_refl _) | exact Or.inr (by omega) | (refine Or.inl ?_; simp; done) | (refine Or.inr ?_; simp; done)))))
def mx (p q : Int) : Int := ((p + 7919 * q + 11) * 48271 % 2147483647 * ((p + 7919 * q + 11) * 48271 % 2147483647) + 40692 * ((p + 7919 * q + 11) * 48271 % 2147483647)) % 2147483399
theorem mixed_ok {p q : Int} {A : Hs} : F_l_mixed [.int p, .int q] A = .ok (.int (mx p q)) A := by
  unfold F_l_mixed
  simp_arith []
  rfl
/-- a draw's list -/
def Drw (A : Hs) (i : Nat) : Prop := ∃ a b c d : Int, A[i]? = some (.lst [.int a, .int b, .int c, .int d])
theorem draw_ok {l : List D} {ns : List Int} {k c : Int} {A : Hs} (hl : l = ns.map D.int) (hk : 0 ≤ k) : ∃ A1, F_l_draw [.scr l, .int k, .int c] A = .ok (.ref A.length) A1 ∧ Drw A1 A.length ∧ Fr [] A A1 := by
  subst hl
  have : ∃ e : Int, (if k < (ns.length : Int) then (atI (ns.map D.int) k) else some (.int 0)) = some (.int e) := by
    by_cases q : k < (ns.length : Int)
    · rw [if_pos q, z4s hk, List.getElem?_map, List.getElem?_eq_getElem (by omega)]; exact ⟨_, rfl⟩
    · rw [if_neg q]; exact ⟨_, rfl⟩
  obtain ⟨e, he⟩ := this
  unfold F_l_draw
  rcases Int.emod_two_eq e with q2 | q2
  · refine ⟨A ++ [.lst [.int (e / 2), .int (-1), .int (mx e (300 + k)), .int c]], ?_, ⟨_, _, _, _, z9g⟩, .push⟩
    by_cases q : k < (ns.length : Int)
    · rw [if_pos q] at he
      simp_arith [q, he, mixed_ok, q2, -z4s]
    · rw [if_neg q] at he
      cases he
      simp_arith [q, mixed_ok]
  · refine ⟨A ++ [.lst [.int (mx e (300 + k)), .int c, .int (mx e (300 + k)), .int c]], ?_, ⟨_, _, _, _, z9g⟩, .push⟩
    by_cases q : k < (ns.length : Int)
    · rw [if_pos q] at he
      simp_arith [q, he, mixed_ok, q2, -z4s]
    · rw [if_neg q] at he
      cases he
      cases q2
theorem draw0_ok {l : List D} {ns : List Int} {k c : Int} (hl : l = ns.map D.int) (hk : 0 ≤ k) : ∃ A1, F_l_draw [.scr l, .int k, .int c] [] = .ok (.ref 0) A1 ∧ Drw A1 0 ∧ Fr [] [] A1 := draw_ok hl hk
theorem next_ok {A : Hs} {i : Nat} {n : Int} (h : Drw A i) (hn : 0 < n) (hn2 : n < 18446744073709551616) : ∃ v A1, 0 ≤ v ∧ v < n ∧ F_l_next [.ref i, .int n] A = .ok (.int v) A1 ∧ Drw A1 i ∧ Fr [i] A A1 := by
  obtain ⟨a, b, c, d, h⟩ := h
  have hi := lt_of_get h
  unfold F_l_next
  by_cases q1 : b < 0
  · by_cases q2 : 0 < a
    · refine ⟨a % n, A.set i (.lst [.int (a / n), .int b, .int c, .int d]), Int.emod_nonneg _ (by omega), Int.emod_lt_of_pos _ hn, ?_, ⟨_, _, _, _, z8r hi⟩, .set (by simp)⟩
      simp_arith [h, q1, q2, List.set_cons_zero]
    · refine ⟨mx c (d + 1) / 7 % n, A.set i (.lst [.int c, .int (d + 1), .int c, .int d]), Int.emod_nonneg _ (by omega), Int.emod_lt_of_pos _ hn, ?_, ⟨_, _, _, _, z8r hi⟩, .set (by simp)⟩
      simp_arith [h, q1, q2, List.set_cons_zero, List.set_cons_succ, mixed_ok]
  · refine ⟨mx a (b + 1) / 7 % n, A.set i (.lst [.int a, .int (b + 1), .int c, .int d]), Int.emod_nonneg _ (by omega), Int.emod_lt_of_pos _ hn, ?_, ⟨_, _, _, _, z8r hi⟩, .set (by simp)⟩
    simp_arith [h, q1, List.set_cons_zero, List.set_cons_succ, mixed_ok]
theorem pick_ok {A : Hs} {i j : Nat} {l : List D} (h : Drw A i) (hj : A[j]? = some (.lst l)) (hne : i ≠ j) (hl : l ≠ []) (hs : l.length < 1000) : ∃ v A1, v ∈ l ∧ F_l_pick [.ref i, .ref j] A = .ok v A1 ∧ Drw A1 i ∧ Fr [i] A A1 := by
  have hp := List.length_pos_iff.mpr hl
  obtain ⟨v, A1, h1, h2, h3, h4, h5⟩ := next_ok (n := l.length) h (by omega) (by omega)
  have hj1 := h5.get hj (by simpa using fun e => hne e.symm)
  have hv : l[v.toNat]? = some (l[v.toNat]'(by omega)) := List.getElem?_eq_getElem (by omega)
  refine ⟨l[v.toNat]'(by omega), A1, List.getElem_mem (by omega), ?_, h4, h5⟩
  unfold F_l_pick
  simp_arith [hj, h3, hj1, hv]
theorem pickL_ok {A : Hs} {i : Nat} {l : List D} (h : Drw A i) (hl : l ≠ []) (hs : l.length < 1000) : Rk (F_l_pick [.ref i, .ref A.length] (A ++ [.lst l])) fun v A1 => v ∈ l ∧ Drw A1 i ∧ Fr [i] A A1 := by
  have h' : Drw (A ++ [.lst l]) i := by
    obtain ⟨a, b, c, d, h⟩ := h
    exact ⟨a, b, c, d, get_push h⟩
  have hi : i ≠ A.length := by
    obtain ⟨a, b, c, d, h⟩ := h
    exact ne_new h
  obtain ⟨v, A1, m, e, d, f⟩ := pick_ok h' z9g hi hl hs
  exact .of e ⟨m, d, Fr.push.trans f⟩

theorem need_number_ok {p q : Int} {A : Hs} (h : 0 ≤ p ∧ p < q) : F_need_number [.int p, .int q] A = .ok .non A := by
  unfold F_need_number
  simp_arith []
theorem need_size_ok {p : Int} {A : Hs} (h : 2 ≤ p ∧ p ≤ 4294967296) : F_need_size [.int p] A = .ok .non A := by
  unfold F_need_size
  simp_arith []
theorem moved_ok {p q n : Int} {A : Hs} (h : 0 ≤ p ∧ p < n) (hn : 2 ≤ n ∧ n ≤ 4294967296) : F_moved [.int p, .int q, .int n] A = .ok (.int ((p + q) % n)) A := by
  unfold F_moved
  simp_arith [need_number_ok, need_size_ok]
theorem far_ok {p q n : Int} {A : Hs} (h : 0 ≤ p ∧ p < n) (h2 : 0 ≤ q ∧ q < n) (hn : 2 ≤ n ∧ n ≤ 4294967296) : F_far [.int p, .int q, .int n] A = .ok (.int ((q - p) % n)) A := by
  unfold F_far
  simp_arith [need_number_ok, need_size_ok]

def isE : D → Bool
  | .str s => decide (s = fS "e")
  | _ => false
def isOO : D → Bool
  | .str s => decide (s = fS "o")
  | _ => false
def Itm (d : D) : Prop := (∃ i, d = .int i) ∨ d = dS "o" ∨ d = dS "e"
theorem Itm.e {d : D} {A : Hs} (h : Itm d) : oEq d (dS "e") A = .ok (.bl (isE d)) A := by
  rcases h with ⟨i, rfl⟩ | rfl | rfl
  · rw [oEq_ids]; rfl
  · rw [z7i]; simp [isE, dS, fS_inj]
  · rw [z7i]; simp [isE, dS, fS_inj]
theorem Itm.o {d : D} {A : Hs} (h : Itm d) : oNe d (dS "o") A = .ok (.bl (!isOO d)) A := by
  rcases h with ⟨i, rfl⟩ | rfl | rfl
  · rw [oNe_ids]; rfl
  · rw [z6k]; simp [isOO, dS, fS_inj]
  · rw [z6k]; simp [isOO, dS, fS_inj]

theorem is_number_ok {p q : Int} {A : Hs} : F_is_number [.int p, .int q] A = .ok (.bl (decide (q ≤ p))) A := by
  unfold F_is_number
  simp_arith []
def oi : Option Int → D
  | none => .non
  | some i => .int i
theorem oi_n : oi none = .non := rfl
theorem oi_s {i : Int} : oi (some i) = .int i := rfl
structure Gv where
  base : Int
  most : Int
  fw : Int
  wait : Int
  sent : Int
  reach : Int
  pace : Int
  tried : Int
  passed : Int
  now : Int
  since : Option Int
  fin : Bool
  kept : List D
def Gv.fs (G : Gv) (k : Nat) : List (String × D) := [("base", .int G.base), ("most", .int G.most), ("first_wait", .int G.fw), ("wait", .int G.wait), ("kept", .ref k), ("sent", .int G.sent), ("reach", .int G.reach), ("pace", .int G.pace), ("since", oi G.since), ("tried", .int G.tried), ("passed", .int G.passed), ("finished", .bl G.fin), ("now", .int G.now)]
structure IsG (A : Hs) (g k : Nat) (G : Gv) : Prop where
  o : A[g]? = some (.obj "Giver" (G.fs k))
  l : A[k]? = some (.lst G.kept)
theorem IsG.ne {A : Hs} {g k : Nat} {G : Gv} (h : IsG A g k G) : g ≠ k := fun e => by have := h.o; rw [e, h.l] at this; cases this
theorem IsG.frame {A A1 : Hs} {g k : Nat} {G : Gv} {s : List Nat} (h : IsG A g k G) (f : Fr s A A1) (hg : g ∉ s) (hk : k ∉ s) : IsG A1 g k G := ⟨f.get h.o hg, f.get h.l hk⟩
theorem IsG.set {A : Hs} {g k : Nat} {G G1 : Gv} (h : IsG A g k G) (hk : G1.kept = G.kept) : IsG (A.set g (.obj "Giver" (G1.fs k))) g k G1 := ⟨get_set h.o, by rw [hk]; exact get_set_ne h.ne h.l⟩
theorem need_tick_ok {A : Hs} {g k : Nat} {G : Gv} {t : Int} (h : IsG A g k G) (ht : G.now ≤ t) : ∃ A1, F_Giver_need_tick [.ref g, .int t] A = .ok .non A1 ∧ IsG A1 g k { G with now := t } ∧ Fr [g] A A1 := by
  refine ⟨_, ?_, h.set (G1 := { G with now := t }) rfl, .set (by simp)⟩
  unfold F_Giver_need_tick
  have ho := h.o
  simp_arith [ho, Gv.fs, is_number_ok, ht]
def Gv.counted (G : Gv) : Bool := decide (0 < G.sent) || (decide (0 < (G.kept.length : Int)) && decide (G.reach = 0))
theorem is_counted_ok {A : Hs} {g k : Nat} {G : Gv} (h : IsG A g k G) : F_Giver_is_counted [.ref g] A = .ok (.bl G.counted) A := by
  unfold F_Giver_is_counted Gv.counted
  have ho := h.o
  have hl := h.l
  by_cases q : 0 < G.sent
  · simp_arith [ho, Gv.fs, hl, q, Bool.true_or]
  · by_cases q2 : 0 < (G.kept.length : Int)
    · simp_arith [ho, Gv.fs, hl, q, q2, Bool.false_or, Bool.true_and]
    · simp_arith [ho, Gv.fs, hl, q, q2, Bool.false_or, Bool.false_and]
def Gv.count (G : Gv) (t : Int) : Gv := { G with since := if G.counted then (if G.since.isNone then some t else G.since) else none }
theorem count_ok {A : Hs} {g k : Nat} {G : Gv} {t : Int} (h : IsG A g k G) : ∃ A1, F_Giver_count [.ref g, .int t] A = .ok .non A1 ∧ IsG A1 g k (G.count t) ∧ Fr [g] A A1 := by
  have ho := h.o
  unfold F_Giver_count
  by_cases q : G.counted = true
  · cases hs : G.since with
    | none =>
      refine ⟨_, ?_, h.set (G1 := G.count t) rfl, .set (by simp)⟩
      simp_arith [ho, Gv.fs, is_counted_ok h, q, hs, oi_n, oi_s, Gv.count]
    | some u =>
      refine ⟨A, ?_, ?_, .refl⟩
      · simp_arith [ho, Gv.fs, is_counted_ok h, q, hs, oi_n, oi_s]
      · have : G.count t = G := by unfold Gv.count; cases G; simp_all
        rw [this]; exact h
  · refine ⟨_, ?_, h.set (G1 := G.count t) rfl, .set (by simp)⟩
    simp_arith [ho, Gv.fs, is_counted_ok h, q, oi_n, oi_s, Gv.count]

theorem count_rk {A : Hs} {g k : Nat} {G : Gv} {t : Int} (h : IsG A g k G) : Rk (F_Giver_count [.ref g, .int t] A) fun v A1 => v = .non ∧ IsG A1 g k (G.count t) ∧ Fr [g] A A1 := by
  obtain ⟨A1, e, p⟩ := count_ok (t := t) h
  exact .of e ⟨rfl, p⟩
structure Gv.Ok (G : Gv) : Prop where
  base : 0 ≤ G.base ∧ G.base < 4294967296
  most : 0 < G.most ∧ G.most ≤ 200
  fw : 0 < G.fw
  sent : 0 ≤ G.sent
theorem next_number_ok {A : Hs} {g k : Nat} {G : Gv} (h : IsG A g k G) (hk : 0 ≤ G.base ∧ G.base < 4294967296) : F_Giver_next_number [.ref g] A = .ok (.int ((G.base + G.sent) % 4294967296)) A := by
  have ho := h.o
  unfold F_Giver_next_number
  simp_arith [ho, Gv.fs, moved_ok]
theorem left_ok {A : Hs} {g k : Nat} {G : Gv} (h : IsG A g k G) : F_Giver_left [.ref g] A = .ok (.int G.kept.length) A := by
  have ho := h.o
  have hl := h.l
  unfold F_Giver_left
  simp_arith [ho, hl, Gv.fs]
def Gv.late (G : Gv) (t : Int) : Bool := match G.since with
  | none => false
  | some u => decide (G.wait ≤ t - u)
def Gv.again (G : Gv) (t : Int) : Gv := if G.late t then { G with wait := min (2 * G.wait) (16 * G.fw), since := some t, tried := G.tried + 1, pace := G.most } else G
def Gv.againL (G : Gv) (t : Int) : List D := if G.late t then [.tup [.int G.base, .tup (G.kept.take (min G.most G.sent).toNat)]] else []
theorem again_ok {A : Hs} {g k : Nat} {G : Gv} {t : Int} (h : IsG A g k G) (hk : G.Ok) : Rk (F_Giver_again [.ref g, .int t] A) fun v A1 => ∃ r, v = .ref r ∧ A.length ≤ r ∧ A1[r]? = some (.lst (G.againL t)) ∧ IsG A1 g k (G.again t) ∧ Fr [g] A A1 := by
  have ho := h.o
  have hl := h.l
  have hg := lt_of_get ho
  have hkl := lt_of_get hl
  have hne := h.ne
  have hm := hk.most
  have hs := hk.sent
  unfold F_Giver_again
  cases q : G.since with
  | none =>
    have e : G.late t = false := by unfold Gv.late; rw [q]
    simp_arith [ho, Gv.fs, q, oi_n, Gv.again, Gv.againL, e]
    exact ⟨_, rfl, Nat.le_refl _, z9g, h.frame (s := []) .push (by simp) (by simp), .push⟩
  | some u =>
    by_cases q2 : G.wait ≤ t - u
    · have e : G.late t = true := by unfold Gv.late; rw [q]; exact decide_eq_true q2
      simp_arith [ho, Gv.fs, q, oi_s, q2, hl, z40, z22, z61, Gv.again, Gv.againL, e]
      refine ⟨_, rfl, Nat.le_succ _, by simp_arith [z22], ⟨?_, ?_⟩, (Fr.set (by simp)).then_push.then_push⟩
      · simp_arith [ho, Gv.fs, z22, z40, oi_s]
      · simp_arith [hl, z22, z40]
    · have e : G.late t = false := by unfold Gv.late; rw [q]; exact decide_eq_false q2
      simp_arith [ho, Gv.fs, q, oi_s, q2, Gv.again, Gv.againL, e]
      exact ⟨_, rfl, Nat.le_refl _, z9g, h.frame (s := []) .push (by simp) (by simp), .push⟩
theorem cnt_lt {s e c : Int} {i : Nat} (hc : 0 < c) : i < cnt s e c ↔ s + i * c < e := by
  unfold cnt
  by_cases h : s < e
  · rw [if_pos h]
    have h0 : 0 ≤ (e - s - 1) / c := Int.ediv_nonneg (by omega) (by omega)
    have h1 := Int.le_ediv_iff_mul_le (a := (i : Int)) (b := e - s - 1) hc
    constructor
    · intro q
      have := h1.mp (by omega)
      omega
    · intro q
      have := h1.mpr (by omega)
      omega
  · rw [if_neg h]
    constructor
    · intro q; simp at q
    · intro q
      have : 0 ≤ (i : Int) * c := Int.mul_nonneg (by omega) (by omega)
      omega
def chk (kept : List D) (base s e c : Int) (i : Nat) : D := .tup [.int ((base + (s + i * c)) % 4294967296), .tup ((kept.drop (s + i * c).toNat).take ((s + i * c + min c (e - (s + i * c))).toNat - (s + i * c).toNat))]
def chks (kept : List D) (base s e c : Int) : List D := (List.range (cnt s e c)).map (chk kept base s e c)
def Gv.due1 (G : Gv) (t : Int) : Gv := Gv.count { G with now := t } t
def Gv.due2 (G : Gv) (t : Int) : Gv := (G.due1 t).again t
def Gv.end_ (G : Gv) : Int := min (min (G.kept.length : Int) G.reach) G.pace
def Gv.due3 (G : Gv) (t : Int) : Gv := { G.due2 t with sent := max (G.due2 t).sent (G.due2 t).end_ }
def Gv.dueG (G : Gv) (t : Int) : Gv := (G.due3 t).count t
def Gv.dueL (G : Gv) (t : Int) : List D := (G.due1 t).againL t ++ chks (G.due2 t).kept (G.due2 t).base (G.due2 t).sent (G.due2 t).end_ (G.due2 t).most
theorem Gv.Ok.count {G : Gv} {t : Int} (h : G.Ok) : (G.count t).Ok := ⟨h.base, h.most, h.fw, h.sent⟩
theorem Gv.Ok.due1 {G : Gv} {t : Int} (h : G.Ok) : (G.due1 t).Ok := ⟨h.base, h.most, h.fw, h.sent⟩
theorem Gv.Ok.again {G : Gv} {t : Int} (h : G.Ok) : (G.again t).Ok := by
  unfold Gv.again
  split
  · exact ⟨h.base, h.most, h.fw, h.sent⟩
  · exact h
theorem due_ok {A : Hs} {g k : Nat} {G : Gv} {t : Int} (h : IsG A g k G) (hk : G.Ok) (ht : G.now ≤ t) (hz : G.kept.length ≤ 1000) : Rk (F_Giver_due [.ref g, .int t] A) fun v A1 => ∃ r, v = .ref r ∧ A.length ≤ r ∧ A1[r]? = some (.lst (G.dueL t)) ∧ IsG A1 g k (G.dueG t) ∧ Fr [g] A A1 := by
  obtain ⟨A1, e1, h1, f1⟩ := need_tick_ok h ht
  obtain ⟨A2, e2, h2, f2⟩ := count_ok (t := t) h1
  obtain ⟨_, A3, e3, r, rfl, hr, h3, h4, f3⟩ := (again_ok (t := t) h2 hk.due1).ex
  have f123 := (f1.trans f2).trans f3
  have hk2 : (G.due2 t).Ok := hk.due1.again
  have kept2 : (G.due2 t).kept = G.kept := by unfold Gv.due2 Gv.again; split <;> rfl
  change IsG A3 g k (G.due2 t) at h4
  change A3[r]? = some (.lst ((G.due1 t).againL t)) at h3
  unfold Gv.dueG Gv.dueL Gv.due3
  have hLl : ((G.due1 t).againL t).length ≤ 1 := by unfold Gv.againL; split <;> simp
  generalize (G.due1 t).againL t = L at *
  generalize hG2 : G.due2 t = G2 at *
  have hA := h.o
  have hA1 := h1.o
  have hA2 := h2.o
  have hA3 := h4.o
  have hl3 := h4.l
  unfold F_Giver_due
  simp_arith [hA, hA1, hA2, hA3, hl3, Gv.fs, e1, e2, e3]
  have hs2 := hk2.sent
  have hm2 := hk2.most
  have hgr : g ≠ r := fun e => by have := f1.le; have := f2.le; have := lt_of_get hA; omega
  have hkr : k ≠ r := fun e => by have := f1.le; have := f2.le; have := lt_of_get h.l; omega
  refine wh_go (R := fun rs => Rk (finR (seqR rs _)) _) (fun n env B => ∃ (i : Nat) (o : Option D) (u : Int), n + i = cnt G2.sent G2.end_ G2.most ∧ env = [some (.ref g), some (.int t), some (.ref r), some (.int G2.end_), o] ∧ (u = if G2.sent + i * G2.most < G2.end_ then G2.sent + i * G2.most else max G2.sent G2.end_) ∧ IsG B g k { G2 with sent := u } ∧ B[r]? = some (.lst (L ++ (List.range i).map (chk G2.kept G2.base G2.sent G2.end_ G2.most))) ∧ Fr [g, r] A3 B) (n := cnt G2.sent G2.end_ G2.most) ⟨0, none, G2.sent, rfl, rfl, ?_, h4, ?_, .refl⟩ ?_
  · split <;> omega
  · simpa using h3
  rintro n _ B ⟨i, o, u, hn, rfl, hu, hG, hL, hF⟩
  have hne := hG.ne
  have ho := hG.o
  have hl := hG.l
  have hgl := lt_of_get ho
  have hkl := lt_of_get hl
  have hrl := lt_of_get hL
  by_cases q : G2.sent + i * G2.most < G2.end_
  · rw [if_pos q] at hu
    subst hu
    have hi := (cnt_lt hm2.1).mpr q
    have hp : 0 ≤ (i : Int) * G2.most := Int.mul_nonneg (by omega) (by omega)
    simp_arith [ho, hl, hL, Gv.fs, q, next_number_ok hG hk2.base]
    have hi2 : (i : Int) ≤ i * G2.most := by have := Int.mul_le_mul_of_nonneg_left (show (1 : Int) ≤ G2.most by omega) (show (0 : Int) ≤ i by omega); omega
    have he : G2.end_ ≤ G2.kept.length := by unfold Gv.end_; omega
    rw [kept2] at he
    simp_arith [ho, hl, hL, Gv.fs, q, next_number_ok hG hk2.base]
    have hx : ((i + 1 : Nat) : Int) * G2.most = i * G2.most + G2.most := by rw [Int.natCast_succ, Int.add_mul, Int.one_mul]
    refine ⟨n - 1, by omega, i + 1, _, G2.sent + ↑i * G2.most + min G2.most (G2.end_ - (G2.sent + ↑i * G2.most)), by omega, rfl, by rw [hx]; split <;> omega, ⟨?_, ?_⟩, ?_, ?_⟩
    · simp_arith [Gv.fs]
    · simp_arith [hl]
    · simp_arith [List.range_succ, List.map_append, List.append_assoc]
      rfl
    · exact (hF.then_push.then_set (.inl (by simp))).then_set (.inl (by simp))
  · rw [if_neg q] at hu
    subst hu
    have hi : i = cnt G2.sent G2.end_ G2.most := by
      have := mt (cnt_lt (i := i) hm2.1).mp q
      omega
    subst hi
    obtain ⟨A4, e4, h5, f5⟩ := count_ok (t := t) hG
    simp_arith [ho, hl, hL, Gv.fs, q, e4]
    refine ⟨r, rfl, by have := f1.le; have := f2.le; omega, f5.get hL (by simpa using fun e => hgr e.symm), h5, ?_⟩
    exact (f123.trans' hF (fun j hj => by simp at hj; rcases hj with rfl | rfl; exact .inl (by simp); exact .inr (by have := f1.le; have := f2.le; omega))).trans f5
theorem is_whole_ok {p lo hi : Int} {A : Hs} : F_is_whole [.int p, .int lo, .int hi] A = .ok (.bl (decide (lo ≤ p) && decide (p ≤ hi))) A := by
  unfold F_is_whole
  by_cases h : lo ≤ p
  · simp_arith [h, Bool.true_and]
  · simp_arith [h, Bool.false_and]
theorem is_data_ok {ds : List Int} {A : Hs} (h : ∀ b ∈ ds, 0 ≤ b ∧ b ≤ 255) (hl : ds.length ≤ 1000) : ∃ A1, F_is_data [.tup (ds.map D.int)] A = .ok (.bl true) A1 ∧ Fr [] A A1 := by
  have key : lcL (gN 1) tYe (eCall0 F_is_whole (aCons (eVar 1) (aCons (eC (.int 0)) (aCons (eC (.int 255)) aNil)))) tt [some (.tup (ds.map D.int)), none] (ds.map D.int) [] A = .ok (((ds.map D.int).filter fun _ => true).map fun _ => D.bl true) A := by
    refine lc_go _ _ trivial (by simp; omega) fun d hd => ?_
    obtain ⟨b, hb, rfl⟩ := List.mem_map.mp hd
    have := h b hb
    simp_arith [is_whole_ok]
    simp [this.1, this.2]
  refine ⟨_, ?_, .push (u := .lst (ds.map fun _ => .bl true))⟩
  have e : ∀ l : List Int, boolsOf (l.map fun _ => D.bl true) = some (l.map fun _ => true) := fun l => by
    have := z05 (l.map fun _ => true)
    rwa [List.map_map] at this
  have e2 : ((ds.map D.int).filter fun _ => true).map (fun _ => D.bl true) = ds.map fun _ => D.bl true := by
    rw [List.filter_eq_self.mpr (by simp), List.map_map]; rfl
  rw [e2] at key
  unfold F_is_data
  simp_arith [key, e]
  simp
def Gv.heardG (G : Gv) (a room t : Int) : Gv :=
  let m := (a - G.base) % 4294967296
  if G.sent < m then { G with now := t } else
  Gv.count { G with now := t, tried := 0, base := a, kept := G.kept.drop m.toNat, sent := G.sent - m, passed := G.passed + m, reach := max (G.reach - m) room, wait := if 0 < m then G.fw else G.wait, since := if 0 < m then none else G.since, pace := if 0 < m then min 512 (G.pace + G.most) else G.pace } t
theorem heard_ok {A : Hs} {g k : Nat} {G : Gv} {a room t : Int} (h : IsG A g k G) (hb : 0 ≤ G.base ∧ G.base < 4294967296) (ha : 0 ≤ a ∧ a < 4294967296) (ht : G.now ≤ t) : Rk (F_Giver_heard [.ref g, .int a, .int room, .int t] A) fun v A1 => v = .bl (decide ((a - G.base) % 4294967296 ≤ G.sent)) ∧ ∃ k1, (k1 = k ∨ A.length ≤ k1) ∧ IsG A1 g k1 (G.heardG a room t) ∧ Fr [g] A A1 := by
  obtain ⟨A1, e1, h1, f1⟩ := need_tick_ok h ht
  have hA := h.o
  have ho := h1.o
  have hl := h1.l
  have hgl := lt_of_get ho
  have hkl := lt_of_get hl
  have hne := h.ne
  have hm := Int.emod_nonneg (a - G.base) (show (4294967296 : Int) ≠ 0 by decide)
  unfold F_Giver_heard Gv.heardG
  by_cases q : G.sent < (a - G.base) % 4294967296
  · have q2 : ¬ (a - G.base) % 4294967296 ≤ G.sent := by omega
    simp_arith [hA, ho, hl, Gv.fs, e1, far_ok, q, q2]
    exact ⟨k, .inl rfl, h1, f1⟩
  · have q2 : (a - G.base) % 4294967296 ≤ G.sent := by omega
    generalize hM : (a - G.base) % 4294967296 = M at *
    by_cases q3 : 0 < M
    all_goals
      simp_arith [hA, ho, hl, Gv.fs, e1, far_ok, hM, q, q2, q3]
      refine Rk.call (fun r => Rk (finR (seqR (ofE _ r _) _)) _) (count_rk (k := A1.length) (G := { G with now := t, tried := 0, base := a, kept := G.kept.drop M.toNat, sent := G.sent - M, passed := G.passed + M, reach := max (G.reach - M) room, wait := if 0 < M then G.fw else G.wait, since := if 0 < M then none else G.since, pace := if 0 < M then min 512 (G.pace + G.most) else G.pace }) (t := t) ⟨?_, ?_⟩) ?_
      · simp_arith [Gv.fs, q3, oi_n]
      · simp_arith []
      · rintro v A2 ⟨rfl, h2, f2⟩
        simp only [q3, if_true, if_false] at h2
        simp_arith []
        exact ⟨_, .inr f1.le, h2, ((f1.then_set (.inl (by simp))).then_push.then_set (.inl (by simp))).trans f2⟩
theorem giver_ok {A : Hs} {f m w : Int} (hf : 0 ≤ f ∧ f < 4294967296) (hm : 1 ≤ m ∧ m ≤ 200) (hw : 1 ≤ w) : Rk (make "Giver" F_Giver___init__ [.int f, .int m, .int w] A) fun v A1 => v = .ref A.length ∧ IsG A1 A.length (A.length + 1) ⟨f, m, w, w, 0, 1, m, 0, 0, 0, none, false, [dS "o"]⟩ ∧ Fr [] A A1 := by
  refine Rk.make ?_
  unfold F_Giver___init__
  simp_arith [is_number_ok]
  refine ⟨⟨?_, ?_⟩, ((Fr.push.then_set (.inr (Nat.le_refl _))).then_push).then_set (.inr (Nat.le_refl _))⟩
  · simp_arith [Gv.fs, oi_n]
  · simp_arith []
def isO (d : D) : Bool := !isOO d
def Gv.writeN (G : Gv) (n : Nat) : Int := min (n : Int) (512 - ((G.kept.filter isO).length : Int))
def Gv.write (G : Gv) (ds : List Int) : Gv := { G with kept := G.kept ++ (ds.map D.int).take (G.writeN ds.length).toNat }
theorem write_ok {A : Hs} {g k : Nat} {G : Gv} {ds : List Int} (h : IsG A g k G) (hf : G.fin = false) (hb : ∀ b ∈ ds, 0 ≤ b ∧ b ≤ 255) (hl : ds.length ≤ 1000) (hk : ∀ d ∈ G.kept, Itm d) (hn : (G.kept.filter isO).length ≤ 512) (hn2 : G.kept.length ≤ 1000) :
    Rk (F_Giver_write [.ref g, .tup (ds.map D.int)] A) fun v A1 => v = .int (G.writeN ds.length) ∧ IsG A1 g k (G.write ds) ∧ Fr [k] A A1 := by
  obtain ⟨A1, e1, f1⟩ := is_data_ok (A := A) hb hl
  have h1 := h.frame f1 (by simp) (by simp)
  have ho := h1.o
  have hlk := h1.l
  have hgl := lt_of_get ho
  have hkl := lt_of_get hlk
  have hne := h.ne
  have key : lcL (gN 3) (tOf (eOp oNe (eVar 3) (eC (dS "o")))) (eVar 3) (fun A' => A'[k]? = some (O.lst G.kept)) [some (.ref g), some (.tup (ds.map D.int)), none, none] G.kept [] A1 = .ok ((G.kept.filter isO).map id) A1 := by
    refine lc_go _ _ hlk (by omega) fun d hd => ?_
    simp_arith [(hk d hd).o]
    exact ⟨rfl, fun _ => rfl⟩
  rw [List.map_id] at key
  unfold F_Giver_write
  simp_arith [e1, ho, hlk, Gv.fs, hf, key]
  refine ⟨rfl, ⟨?_, ?_⟩, ((f1.mono (by simp)).then_push).then_set (.inl (by simp))⟩
  · simp_arith [ho]
    rfl
  · simp_arith []
    rfl

theorem answered_ok {A : Hs} {g k : Nat} {G : Gv} (h : IsG A g k G) : F_Giver_answered [.ref g] A = .ok (.int G.passed) A := by
  have ho := h.o
  unfold F_Giver_answered
  simp_arith [ho, Gv.fs]
def Gv.finish (G : Gv) : Gv := { G with fin := true, kept := if G.fin then G.kept else G.kept ++ [dS "e"] }
theorem finish_ok {A : Hs} {g k : Nat} {G : Gv} (h : IsG A g k G) (hz : G.kept.length ≤ 100000) : Rk (F_Giver_finish [.ref g] A) fun v A1 => v = .non ∧ IsG A1 g k G.finish ∧ Fr [g, k] A A1 := by
  have ho := h.o
  have hl := h.l
  have hgl := lt_of_get ho
  have hkl := lt_of_get hl
  have hne := h.ne
  unfold F_Giver_finish Gv.finish
  cases q : G.fin with
  | true =>
    simp_arith [ho, hl, Gv.fs, q]
    refine ⟨⟨?_, ?_⟩, by walk_at "fr!"⟩
    · simp_arith [Gv.fs]
    · simp_arith [hl]
  | false =>
    simp_arith [ho, hl, Gv.fs, q]
    refine ⟨⟨?_, ?_⟩, by walk_at "fr!"⟩
    · simp_arith [Gv.fs]
    · simp_arith []
theorem write_fin {A : Hs} {g k : Nat} {G : Gv} {ds : List Int} (h : IsG A g k G) (hf : G.fin = true) (hb : ∀ b ∈ ds, 0 ≤ b ∧ b ≤ 255) (hl : ds.length ≤ 1000) :
    Rk (F_Giver_write [.ref g, .tup (ds.map D.int)] A) fun v A1 => v = .int 0 ∧ IsG A1 g k G ∧ Fr [] A A1 := by
  obtain ⟨A1, e1, f1⟩ := is_data_ok (A := A) hb hl
  have h1 := h.frame f1 (by simp) (by simp)
  have ho := h1.o
  unfold F_Giver_write
  simp_arith [e1, ho, Gv.fs, hf]
  exact ⟨h1, f1⟩

structure KO (kept : List D) (over : Bool) : Prop where
  n : (kept.filter isO).length ≤ 512 + (if over then 1 else 0)
  o : (kept.filter isOO).length ≤ 1
theorem KO.len {kept : List D} {over : Bool} (h : KO kept over) : kept.length ≤ 514 := by
  have h1 := h.n
  have h2 := h.o
  have : kept.length = (kept.filter isO).length + (kept.filter isOO).length := by
    clear h h1 h2
    induction kept with
    | nil => rfl
    | cons d l ih =>
      rw [List.filter_cons, List.filter_cons, List.length_cons, ih]
      unfold isO
      cases isOO d <;> simp <;> omega
  cases over <;> simp at h1 <;> omega
theorem KO.drop {kept : List D} {over : Bool} {m : Nat} (h : KO kept over) : KO (kept.drop m) over :=
  ⟨Nat.le_trans ((List.drop_sublist m kept).filter _).length_le h.n, Nat.le_trans ((List.drop_sublist m kept).filter _).length_le h.o⟩
theorem KO.write {kept : List D} {ds : List Int} {n : Nat} (h : KO kept false) (hn : n + (kept.filter isO).length ≤ 512) : KO (kept ++ (ds.map D.int).take n) false := by
  have e1 : ∀ l : List D, (∀ d ∈ l, ∃ i, d = D.int i) → l.filter isOO = [] := fun l hl => List.filter_eq_nil_iff.mpr fun d hd => by obtain ⟨i, rfl⟩ := hl d hd; simp [isOO]
  have hl : ∀ d ∈ (ds.map D.int).take n, ∃ i, d = D.int i := fun d hd => by
    obtain ⟨i, _, rfl⟩ := List.mem_map.mp (List.mem_of_mem_take hd); exact ⟨i, rfl⟩
  refine ⟨?_, ?_⟩
  · rw [List.filter_append, List.length_append]
    have := List.length_filter_le isO ((ds.map D.int).take n)
    rw [List.length_take] at this
    simp only [Bool.false_eq_true, if_false]
    omega
  · rw [List.filter_append, e1 _ hl, List.append_nil]; exact h.o
theorem KO.finish {kept : List D} (h : KO kept false) : KO (kept ++ [dS "e"]) true := by
  have e1 : isOO (dS "e") = false := by simp [isOO, dS, fS_inj]
  have h1 := h.n
  refine ⟨?_, ?_⟩
  · rw [List.filter_append, List.length_append]
    have : ([dS "e"].filter isO).length ≤ 1 := List.length_filter_le _ _
    simp at h1 ⊢; omega
  · rw [List.filter_append, List.filter_cons, e1]; simpa using h.o
theorem itm_pd {l : List D} {n : Nat} (h : ∀ d ∈ l, Itm d) : l.all (pd n) = true := by
  rw [List.all_eq_true]
  intro d hd
  rcases h d hd with ⟨i, rfl⟩ | rfl | rfl
  · exact pd_int
  · exact pd_dS
  · exact pd_dS

def prD (p : Int × List D) : D := .tup [.int p.1, .tup p.2]
def Gv.againP (G : Gv) (t : Int) : List (Int × List D) := if G.late t then [(G.base, G.kept.take (min G.most G.sent).toNat)] else []
def chkP (kept : List D) (base s e c : Int) (i : Nat) : Int × List D := ((base + (s + i * c)) % 4294967296, (kept.drop (s + i * c).toNat).take ((s + i * c + min c (e - (s + i * c))).toNat - (s + i * c).toNat))
def chkPs (kept : List D) (base s e c : Int) : List (Int × List D) := (List.range (cnt s e c)).map (chkP kept base s e c)
def Gv.dueP (G : Gv) (t : Int) : List (Int × List D) := (G.due1 t).againP t ++ chkPs (G.due2 t).kept (G.due2 t).base (G.due2 t).sent (G.due2 t).end_ (G.due2 t).most
theorem dueL_P {G : Gv} {t : Int} : G.dueL t = (G.dueP t).map prD := by
  unfold Gv.dueL Gv.dueP
  rw [List.map_append]
  congr 1
  · unfold Gv.againL Gv.againP; split <;> rfl
  · unfold chks chkPs; rw [List.map_map]; rfl
theorem cnt_le {s e c : Int} (hc : 0 < c) : (cnt s e c : Int) ≤ max 0 (e - s) := by
  unfold cnt
  by_cases h : s < e
  · rw [if_pos h]
    have h0 : 0 ≤ (e - s - 1) / c := Int.ediv_nonneg (by omega) (by omega)
    have h1 : (e - s - 1) / c ≤ e - s - 1 := Int.ediv_le_self _ (by omega)
    omega
  · rw [if_neg h]; omega
theorem dueP_ok {G : Gv} {t : Int} (hG : G.Ok) (hk : ∀ d ∈ G.kept, Itm d) (hl : G.kept.length ≤ 514) : (G.dueP t).length ≤ 600 ∧ ∀ p ∈ G.dueP t, 0 ≤ p.1 ∧ p.1 < 4294967296 ∧ (∀ d ∈ p.2, Itm d) ∧ p.2.length ≤ 200 := by
  have k2 : (G.due2 t).kept = G.kept := by unfold Gv.due2 Gv.again; split <;> rfl
  have hm := hG.most
  have h2 : (G.due2 t).Ok := hG.due1.again
  have hs := h2.sent
  have hm2 := h2.most
  unfold Gv.dueP
  refine ⟨?_, fun p hp => ?_⟩
  · rw [List.length_append]
    have a1 : ((G.due1 t).againP t).length ≤ 1 := by unfold Gv.againP; split <;> simp
    have a2 : (chkPs (G.due2 t).kept (G.due2 t).base (G.due2 t).sent (G.due2 t).end_ (G.due2 t).most).length ≤ 514 := by
      unfold chkPs
      rw [List.length_map, List.length_range]
      have := cnt_le (s := (G.due2 t).sent) (e := (G.due2 t).end_) hm2.1
      have he : (G.due2 t).end_ ≤ G.kept.length := by unfold Gv.end_; rw [k2]; omega
      omega
    omega
  · rcases List.mem_append.mp hp with hp | hp
    · unfold Gv.againP at hp
      split at hp
      · rw [List.mem_singleton] at hp
        subst hp
        refine ⟨hG.base.1, hG.base.2, fun d hd => hk d (List.mem_of_mem_take hd), ?_⟩
        have hmm : (G.due1 t).most = G.most := rfl
        simp only [List.length_take]
        omega
      · cases hp
    · unfold chkPs at hp
      obtain ⟨i, hi, rfl⟩ := List.mem_map.mp hp
      unfold chkP
      refine ⟨by simp only; omega, by simp only; omega, fun d hd => hk d ?_, ?_⟩
      · rw [← k2]; exact List.mem_of_mem_drop (List.mem_of_mem_take hd)
      · simp only [List.length_take, List.length_drop]
        have hx : 0 ≤ (i : Int) * (G.due2 t).most := Int.mul_nonneg (by omega) (by omega)
        generalize (i : Int) * (G.due2 t).most = X at *
        omega
theorem due_kept {G : Gv} {t : Int} : (G.dueG t).kept = G.kept ∧ (G.dueG t).fin = G.fin ∧ (G.dueG t).now = t := by
  have e : ∀ G : Gv, (G.again t).kept = G.kept ∧ (G.again t).fin = G.fin ∧ (G.again t).now = G.now := fun G => by
    unfold Gv.again; split <;> exact ⟨rfl, rfl, rfl⟩
  obtain ⟨a, b, c⟩ := e (G.due1 t)
  exact ⟨a, b, c⟩
theorem heard_kept {G : Gv} {a room t : Int} : (∃ n, (G.heardG a room t).kept = G.kept.drop n) ∧ (G.heardG a room t).fin = G.fin ∧ (G.heardG a room t).now = t := by
  unfold Gv.heardG
  simp only
  split
  · exact ⟨⟨0, rfl⟩, rfl, rfl⟩
  · exact ⟨⟨_, rfl⟩, rfl, rfl⟩
def kvI (L : List (Int × D)) : List (D × D) := L.map fun p => (D.int p.1, p.2)
theorem kget_kvI {L : List (Int × D)} {k : Int} : kget (kvI L) (.int k) = L.lookup k := by
  induction L with
  | nil => rfl
  | cons p L ih =>
    obtain ⟨a, d⟩ := p
    unfold kvI at ih ⊢
    rw [List.map_cons, z18, z5e, look_cons_i, ih]
    by_cases h : a = k
    · subst h; simp
    · simp [h, Ne.symm h]
theorem khas_kvI {L : List (Int × D)} {k : Int} (h : L.lookup k = none) : khas (kvI L) (.int k) = false := by
  induction L with
  | nil => rfl
  | cons p L ih =>
    obtain ⟨a, d⟩ := p
    rw [look_cons_i] at h
    by_cases q : k = a
    · rw [if_pos q] at h; cases h
    · rw [if_neg q] at h
      have := ih h
      unfold khas kvI at this ⊢
      rw [List.map_cons, List.any_cons, this, z5e, decide_eq_false (fun e => q e.symm)]; rfl
theorem kput_kvI {L : List (Int × D)} {k : Int} {d : D} (h : L.lookup k = none) : kput (kvI L) (.int k) d = kvI (L ++ [(k, d)]) := by
  unfold kput; rw [khas_kvI h]; simp [kvI]
theorem kdel_kvI {L : List (Int × D)} {k : Int} : kdel (kvI L) (.int k) = kvI (L.filter fun p => decide (p.1 ≠ k)) := by
  induction L with
  | nil => rfl
  | cons p L ih =>
    obtain ⟨a, d⟩ := p
    unfold kdel kvI at ih ⊢
    rw [List.map_cons, List.filter_cons, List.filter_cons, ih, z5e]
    by_cases h : a = k
    · simp [h]
    · simp [h]
theorem len_kvI {L : List (Int × D)} : (kvI L).length = L.length := by simp [kvI]
theorem is_within_ok {p lo hi : Int} {A : Hs} : F_is_within [.int p, .int lo, .int hi] A = .ok (.bl (decide (lo ≤ p) && decide (p ≤ hi))) A := by
  unfold F_is_within
  by_cases h : lo ≤ p
  · simp_arith [h, Bool.true_and]
  · simp_arith [h, Bool.false_and]
structure Tv where
  wanted : Int
  room : Int
  ahead : List (Int × D)
  unread : List D
  over : Bool
def Tv.fs (T : Tv) (h : Nat) : List (String × D) := [("wanted", .int T.wanted), ("whole_room", .int T.room), ("ahead", .ref h), ("unread", .tup T.unread), ("over", .bl T.over)]
structure IsT (A : Hs) (t h : Nat) (T : Tv) : Prop where
  o : A[t]? = some (.obj "Taker" (T.fs h))
  l : A[h]? = some (.dic false false (kvI T.ahead))
theorem IsT.ne {A : Hs} {t h : Nat} {T : Tv} (k : IsT A t h T) : t ≠ h := fun e => by have := k.o; rw [e, k.l] at this; cases this
theorem IsT.frame {A A1 : Hs} {t h : Nat} {T : Tv} {s : List Nat} (k : IsT A t h T) (f : Fr s A A1) (hg : t ∉ s) (hk : h ∉ s) : IsT A1 t h T := ⟨f.get k.o hg, f.get k.l hk⟩
def Tv.come (T : Tv) (d : D) : Tv := if isE d then { T with wanted := (T.wanted + 1) % 4294967296, over := true, ahead := [] } else if isOO d then { T with wanted := (T.wanted + 1) % 4294967296 } else { T with wanted := (T.wanted + 1) % 4294967296, unread := T.unread ++ [d] }
theorem come_ok {A : Hs} {t h : Nat} {T : Tv} {d : D} (k : IsT A t h T) (hd : Itm d) (hw : 0 ≤ T.wanted ∧ T.wanted < 4294967296) (hu : T.unread.length ≤ 100000) : Rk (F_Taker_come_ready [.ref t, d] A) fun v A1 => v = .non ∧ ∃ h1, (h1 = h ∨ A.length ≤ h1) ∧ IsT A1 t h1 (T.come d) ∧ Fr [t] A A1 := by
  have ho := k.o
  have hl := k.l
  have htl := lt_of_get ho
  have hhl := lt_of_get hl
  have hne := k.ne
  unfold F_Taker_come_ready Tv.come
  cases q : isE d with
  | true =>
    simp_arith [ho, Tv.fs, moved_ok, hd.e, q]
    refine ⟨_, .inr (Nat.le_refl _), ⟨?_, ?_⟩, by walk_at "fr!"⟩
    · simp_arith [Tv.fs]
    · simp_arith [kvI]
  | false =>
    cases q2 : isOO d with
    | true =>
      simp_arith [ho, Tv.fs, moved_ok, hd.e, hd.o, q, q2]
      refine ⟨_, .inl rfl, ⟨?_, ?_⟩, by walk_at "fr!"⟩
      · simp_arith [Tv.fs]
      · simp_arith [hl]
    | false =>
      simp_arith [ho, Tv.fs, moved_ok, hd.e, hd.o, q, q2]
      refine ⟨_, .inl rfl, ⟨?_, ?_⟩, by walk_at "fr!"⟩
      · simp_arith [Tv.fs]
      · simp_arith [hl]
theorem taker_ok {A : Hs} {f r : Int} (hf : 0 ≤ f ∧ f ≤ 4294967295) (hr : 1 ≤ r ∧ r ≤ 128) : Rk (make "Taker" F_Taker___init__ [.int f, .int r] A) fun v A1 => v = .ref A.length ∧ IsT A1 A.length (A.length + 1) ⟨f, r, [], [], false⟩ ∧ Fr [] A A1 := by
  refine Rk.make ?_
  unfold F_Taker___init__
  simp_arith [is_within_ok, decide_eq_true hf.1, decide_eq_true hf.2, decide_eq_true hr.1, decide_eq_true hr.2]
  refine ⟨⟨?_, ?_⟩, by walk_at "fr!"⟩
  · simp_arith [Tv.fs]
  · simp_arith [kvI]
theorem wants_ok {A : Hs} {t h : Nat} {T : Tv} (k : IsT A t h T) : F_Taker_wants [.ref t] A = .ok (.tup [.int T.wanted, .int (T.room - T.unread.length)]) A := by
  have ho := k.o
  unfold F_Taker_wants F_Taker_free
  simp_arith [ho, Tv.fs]
theorem ready_ok {A : Hs} {t h : Nat} {T : Tv} (k : IsT A t h T) : F_Taker_ready [.ref t] A = .ok (.int T.unread.length) A := by
  have ho := k.o
  unfold F_Taker_ready
  simp_arith [ho, Tv.fs]
theorem ended_ok {A : Hs} {t h : Nat} {T : Tv} (k : IsT A t h T) : F_Taker_ended [.ref t] A = .ok (.bl T.over) A := by
  have ho := k.o
  unfold F_Taker_ended
  simp_arith [ho, Tv.fs]
theorem read_ok {A : Hs} {t h : Nat} {T : Tv} {n : Int} (k : IsT A t h T) (hn : 0 ≤ n) : Rk (F_Taker_read [.ref t, .int n] A) fun v A1 => v = .tup (T.unread.take n.toNat) ∧ IsT A1 t h { T with unread := T.unread.drop n.toNat } ∧ Fr [t] A A1 := by
  have ho := k.o
  have hl := k.l
  have htl := lt_of_get ho
  have hhl := lt_of_get hl
  have hne := k.ne
  unfold F_Taker_read
  simp_arith [ho, Tv.fs, is_within_ok, decide_eq_true hn, Int.le_refl]
  refine ⟨⟨?_, ?_⟩, by walk_at "fr!"⟩
  · simp_arith [Tv.fs]
  · simp_arith [hl]
def Tv.put1 (T : Tv) (w0 free number : Int) (s : Nat) (d : D) : Tv := if ((number + s) % 4294967296 - w0) % 4294967296 < free ∧ T.ahead.lookup ((number + s) % 4294967296) = none then { T with ahead := T.ahead ++ [((number + s) % 4294967296, d)] } else T
def Tv.puts (T : Tv) (w0 free number : Int) (ds : List D) : Nat → Tv
  | 0 => T
  | i + 1 => match ds[i]? with
    | some d => (T.puts w0 free number ds i).put1 w0 free number i d
    | none => T.puts w0 free number ds i
theorem puts_same {T : Tv} {w0 free number : Int} {ds : List D} : ∀ i, (T.puts w0 free number ds i).wanted = T.wanted ∧ (T.puts w0 free number ds i).room = T.room ∧ (T.puts w0 free number ds i).unread = T.unread ∧ (T.puts w0 free number ds i).over = T.over ∧ (T.puts w0 free number ds i).ahead.length ≤ T.ahead.length + i ∧ ∀ p ∈ (T.puts w0 free number ds i).ahead, p ∈ T.ahead ∨ p.2 ∈ ds
  | 0 => ⟨rfl, rfl, rfl, rfl, Nat.le_refl _, fun p h => .inl h⟩
  | i + 1 => by
    have ih := puts_same (T := T) (w0 := w0) (free := free) (number := number) (ds := ds) i
    unfold Tv.puts
    cases q : ds[i]? with
    | none => exact ⟨ih.1, ih.2.1, ih.2.2.1, ih.2.2.2.1, by have := ih.2.2.2.2.1; simp only; omega, ih.2.2.2.2.2⟩
    | some d =>
      simp only
      unfold Tv.put1
      split
      · refine ⟨ih.1, ih.2.1, ih.2.2.1, ih.2.2.2.1, by have := ih.2.2.2.2.1; simp; omega, fun p h => ?_⟩
        rcases List.mem_append.mp h with h | h
        · exact ih.2.2.2.2.2 p h
        · rw [List.mem_singleton] at h; subst h; exact .inr (List.mem_of_getElem? q)
      · exact ⟨ih.1, ih.2.1, ih.2.2.1, ih.2.2.2.1, by have := ih.2.2.2.2.1; omega, ih.2.2.2.2.2⟩
def Tv.drain : Nat → Tv → Tv
  | 0, T => T
  | n + 1, T => match T.ahead.lookup T.wanted with
    | none => T
    | some d => if T.over then T else drain n (Tv.come { T with ahead := T.ahead.filter fun p => decide (p.1 ≠ T.wanted) } d)
def Tv.take (T : Tv) (number : Int) (ds : List D) : Tv := if T.over then T else Tv.drain ((T.puts T.wanted (T.room - T.unread.length) number ds ds.length).ahead.length + 1) (T.puts T.wanted (T.room - T.unread.length) number ds ds.length)
structure Tv.Ok (T : Tv) : Prop where
  w : 0 ≤ T.wanted ∧ T.wanted < 4294967296
  i : ∀ p ∈ T.ahead, Itm p.2
  u : T.unread.length + T.ahead.length ≤ 50000
theorem look_mem {L : List (Int × D)} {k : Int} {d : D} (h : L.lookup k = some d) : (k, d) ∈ L := by
  induction L with
  | nil => cases h
  | cons p L ih =>
    obtain ⟨a, e⟩ := p
    rw [look_cons_i] at h
    by_cases q : k = a
    · rw [if_pos q] at h; cases h; rw [q]; exact List.mem_cons_self
    · rw [if_neg q] at h; exact List.mem_cons_of_mem _ (ih h)
theorem filter_lt {L : List (Int × D)} {k : Int} {d : D} (h : L.lookup k = some d) : (L.filter fun p => decide (p.1 ≠ k)).length < L.length := by
  have hm := look_mem h
  rcases Nat.lt_or_ge (L.filter fun p => decide (p.1 ≠ k)).length L.length with q | q
  · exact q
  · have e := List.filter_eq_self.mp (List.Sublist.eq_of_length_le List.filter_sublist q) _ hm
    simp at e
theorem Tv.Ok.come {T : Tv} {d : D} (h : T.Ok) (hu : T.unread.length + T.ahead.length + 1 ≤ 50000) : (T.come d).Ok := by
  unfold Tv.come
  have hw : 0 ≤ (T.wanted + 1) % 4294967296 ∧ (T.wanted + 1) % 4294967296 < 4294967296 := by omega
  have := h.u
  split
  · exact ⟨hw, fun p hp => by simp at hp, by simp; omega⟩
  · split
    · exact ⟨hw, h.i, h.u⟩
    · exact ⟨hw, h.i, by simp; omega⟩
theorem drain_same {n m : Nat} {T : Tv} (hn : T.ahead.length < n) (hm : T.ahead.length < m) : Tv.drain n T = Tv.drain m T := by
  induction n generalizing m T with
  | zero => omega
  | succ n ih =>
    cases m with
    | zero => omega
    | succ m =>
      unfold Tv.drain
      cases q : T.ahead.lookup T.wanted with
      | none => rfl
      | some d =>
        simp only
        split
        · rfl
        · have hl := filter_lt q
          have : (Tv.come { T with ahead := T.ahead.filter fun p => decide (p.1 ≠ T.wanted) } d).ahead.length ≤ (T.ahead.filter fun p => decide (p.1 ≠ T.wanted)).length := by
            unfold Tv.come; split
            · simp
            · split <;> exact Nat.le_refl _
          exact ih (by omega) (by omega)
theorem take_ok {A : Hs} {t h : Nat} {T : Tv} {number : Int} {ds : List D} (k : IsT A t h T) (hT : T.Ok) (hn : 0 ≤ number ∧ number < 4294967296) (hds : ∀ d ∈ ds, Itm d) (hr : 0 ≤ T.room) (hz : T.unread.length + T.ahead.length + ds.length + 1 ≤ 50000) :
    Rk (F_Taker_take [.ref t, .int number, .tup ds] A) fun v A1 => v = .non ∧ ∃ h1, (h1 = h ∨ A.length ≤ h1) ∧ IsT A1 t h1 (T.take number ds) ∧ Fr [t, h] A A1 := by
  have ho := k.o
  have hl := k.l
  unfold F_Taker_take Tv.take
  cases q : T.over with
  | true =>
    simp_arith [ho, Tv.fs, q]
    exact ⟨h, .inl rfl, k, .refl⟩
  | false =>
    simp_arith [ho, Tv.fs, q, wants_ok k]
    refine for_go (R := fun rs => Rk (finR (seqR rs _)) _) (fun i e B => ∃ (o5 o6 o7 : Option D), e = [some (.ref t), some (.int number), some (.tup ds), some (.int T.wanted), some (.int (T.room - T.unread.length)), o5, o6, o7] ∧ IsT B t h (T.puts T.wanted (T.room - T.unread.length) number ds i) ∧ Fr [t, h] A B) ⟨none, none, none, rfl, k, .refl⟩ (fun _ _ _ _ _ => trivial) ?_ ?_
    · rintro i _ B d hd ⟨o5, o6, o7, rfl, kB, fB⟩
      obtain ⟨x, hx, rfl⟩ := enumL_get hd
      have hoB := kB.o
      have hlB := kB.l
      have hhl := lt_of_get hlB
      have hne := kB.ne
      obtain ⟨p1, p2, p3, p4, p5, p6⟩ := puts_same (T := T) (w0 := T.wanted) (free := T.room - T.unread.length) (number := number) (ds := ds) i
      have hi := lt_of_get hx
      have hw := hT.w
      have hsz : (kvI (T.puts T.wanted (T.room - T.unread.length) number ds i).ahead).length < 16000000 := by rw [len_kvI]; omega
      have e : T.puts T.wanted (T.room - T.unread.length) number ds (i + 1) = (T.puts T.wanted (T.room - T.unread.length) number ds i).put1 T.wanted (T.room - T.unread.length) number i x := by
        rw [Tv.puts]; simp only [hx]
      have hpl : 0 ≤ (number + (i : Int)) % 4294967296 ∧ (number + (i : Int)) % 4294967296 < 4294967296 := by omega
      by_cases c1 : ((number + (i : Int)) % 4294967296 - T.wanted) % 4294967296 < T.room - T.unread.length
      · cases c2 : (T.puts T.wanted (T.room - T.unread.length) number ds i).ahead.lookup ((number + (i : Int)) % 4294967296) with
        | none =>
          simp_arith [hoB, hlB, Tv.fs, moved_ok, far_ok, c1, kget_kvI, c2]
          refine ⟨_, _, _, rfl, ?_, ?_⟩
          · rw [e]; unfold Tv.put1; rw [if_pos ⟨c1, c2⟩]
            refine ⟨?_, ?_⟩
            · simp_arith [hoB]
              rfl
            · simp_arith [kput_kvI c2]
          · walk_at "fr!"
        | some d2 =>
          simp_arith [hoB, hlB, Tv.fs, moved_ok, far_ok, c1, kget_kvI, c2]
          refine ⟨_, _, _, rfl, ?_, fB⟩
          rw [e]; unfold Tv.put1; rw [if_neg (by rw [c2]; simp)]; exact kB
      · simp_arith [hoB, hlB, Tv.fs, moved_ok, far_ok, c1]
        refine ⟨_, _, _, rfl, ?_, fB⟩
        rw [e]; unfold Tv.put1; rw [if_neg (fun z => c1 z.1)]; exact kB
    · rintro _ B ⟨o5, o6, o7, rfl, kB, fB⟩
      rw [enumL_len] at kB
      simp_arith []
      obtain ⟨p1, p2, p3, p4, p5, p6⟩ := puts_same (T := T) (w0 := T.wanted) (free := T.room - T.unread.length) (number := number) (ds := ds) ds.length
      have hok : (T.puts T.wanted (T.room - T.unread.length) number ds ds.length).Ok := ⟨by rw [p1]; exact hT.w, fun p hp => (p6 p hp).elim (hT.i p) (hds p.2), by rw [p3]; omega⟩
      generalize T.puts T.wanted (T.room - T.unread.length) number ds ds.length = T0 at *
      refine wh_go (R := fun rs => Rk (finR rs) _) (fun n e B => e = [some (.ref t), some (.int number), some (.tup ds), some (.int T.wanted), some (.int (T.room - T.unread.length)), o5, o6, o7] ∧ ∃ h1 T1, (h1 = h ∨ A.length ≤ h1) ∧ T1.ahead.length = n ∧ T1.Ok ∧ Tv.drain (T0.ahead.length + 1) T0 = Tv.drain (n + 1) T1 ∧ IsT B t h1 T1 ∧ Fr [t, h] A B) (n := T0.ahead.length) ⟨rfl, h, T0, .inl rfl, rfl, hok, rfl, kB, fB⟩ ?_
      rintro n _ B ⟨rfl, h1, T1, hh1, hn1, ok1, hd1, k1, f1⟩
      have hoB := k1.o
      have hlB := k1.l
      have hhl := lt_of_get hlB
      have hne := k1.ne
      rw [hd1]
      cases c : T1.ahead.lookup T1.wanted with
      | none =>
        rw [show Tv.drain (n + 1) T1 = T1 by unfold Tv.drain; rw [c]]
        simp_arith [hoB, hlB, Tv.fs, kget_kvI, c]
        exact ⟨h1, hh1, k1, f1⟩
      | some d =>
        cases c2 : T1.over with
        | true =>
          rw [show Tv.drain (n + 1) T1 = T1 by unfold Tv.drain; rw [c]; simp [c2]]
          simp_arith [hoB, hlB, Tv.fs, kget_kvI, c, c2]
          exact ⟨h1, hh1, k1, f1⟩
        | false =>
          have hst : Tv.drain (n + 1) T1 = Tv.drain n (Tv.come { T1 with ahead := T1.ahead.filter fun p => decide (p.1 ≠ T1.wanted) } d) := by rw [Tv.drain]; rw [c]; simp [c2]
          rw [hst]
          have hm := look_mem c
          have hf := filter_lt c
          have k2 : IsT (B.set h1 (.dic false false (kdel (kvI T1.ahead) (.int T1.wanted)))) t h1 { T1 with ahead := T1.ahead.filter fun p => decide (p.1 ≠ T1.wanted) } := ⟨by simp_arith [hoB]; rfl, by simp_arith [kdel_kvI]⟩
          obtain ⟨_, B2, b2, rfl, h2, hh2, k3, f2⟩ := (come_ok (d := d) k2 (show Itm d from ok1.i _ hm) ok1.w (by have := ok1.u; show T1.unread.length ≤ _; omega)).ex
          have hce : (Tv.come { T1 with ahead := T1.ahead.filter fun p => decide (p.1 ≠ T1.wanted) } d).ahead.length ≤ (T1.ahead.filter fun p => decide (p.1 ≠ T1.wanted)).length := by
            unfold Tv.come; split
            · simp
            · split <;> exact Nat.le_refl _
          have hok2 : (Tv.come { T1 with ahead := T1.ahead.filter fun p => decide (p.1 ≠ T1.wanted) } d).Ok := by
            refine Tv.Ok.come ⟨ok1.w, fun p hp => ok1.i p (List.mem_filter.mp hp).1, ?_⟩ ?_
            · have := ok1.u; show T1.unread.length + (T1.ahead.filter fun p => decide (p.1 ≠ T1.wanted)).length ≤ _; omega
            · have := ok1.u; show T1.unread.length + (T1.ahead.filter fun p => decide (p.1 ≠ T1.wanted)).length + 1 ≤ _; omega
          generalize (T1.ahead.filter fun p => decide (p.1 ≠ T1.wanted)).length = m at *
          generalize Tv.come { T1 with ahead := T1.ahead.filter fun p => decide (p.1 ≠ T1.wanted) } d = X at *
          simp_arith [hoB, hlB, Tv.fs, kget_kvI, c, c2, b2]
          refine ⟨_, ?_, h2, X, ?_, rfl, hok2, ?_, k3, ?_⟩
          · omega
          · rcases hh2 with rfl | hh2
            · exact hh1
            · refine .inr ?_
              have := f1.le; simp at hh2; omega
          · refine drain_same ?_ ?_ <;> omega
          · refine (Fr.then_set f1 ?_).trans' f2 ?_
            · rcases hh1 with rfl | hh1
              · exact .inl (by simp)
              · exact .inr hh1
            · intro j hj
              exact .inl (by simp at hj; simp [hj])

theorem first_ok {A : Hs} {i : Nat} (h : Drw A i) : Rk (F_l_first [.ref i] A) fun v A1 => ∃ f : Int, v = .int f ∧ 0 ≤ f ∧ f < 4294967296 ∧ Drw A1 i ∧ Fr [i] A A1 := by
  obtain ⟨v1, A1, a1, b1, e1, d1, f1⟩ := next_ok (n := 4294967296) h (by decide) (by decide)
  obtain ⟨v2, A2, a2, b2, e2, d2, f2⟩ := next_ok (n := 60) d1 (by decide) (by decide)
  have d2' : Drw (A2 ++ [.lst [.int 0, .int v1, .int (4294967295 - v2)]]) i := by
    obtain ⟨a, b, c, d, h⟩ := d2
    exact ⟨a, b, c, d, get_push h⟩
  obtain ⟨v3, A3, a3, b3, e3, d3, f3⟩ := next_ok (n := 3) d2' (by decide) (by decide)
  have hl := f3.get z9g (by
    obtain ⟨a, b, c, d, h⟩ := d2
    simpa using (ne_new h).symm)
  have hf := (f1.trans f2).trans (Fr.push.trans f3)
  rcases (by omega : v3 = 0 ∨ v3 = 1 ∨ v3 = 2) with rfl | rfl | rfl
  all_goals
    unfold F_l_first
    simp_arith [e1, e2, e3, hl]
    refine ⟨_, rfl, by omega, by omega, d3, hf⟩

def isI (d : D) : Bool := !isE d && !isOO d
/-! a stream of items and who takes it -/
def nm (f : Int) (i : Nat) : Int := (f + (i : Int)) % 4294967296
structure St (S : List D) : Prop where
  len : S.length ≤ 100000
  itm : ∀ d ∈ S, Itm d
  e : ∀ (i : Nat) (d : D), S[i]? = some d → isE d = true → i + 1 = S.length
/-- what the taker has come to: c items in their order, none beyond q -/
structure TJ (f : Int) (S : List D) (R : Int) (q c : Nat) (got : List D) (T : Tv) : Prop where
  w : T.wanted = nm f c
  r : T.room = R
  cq : c ≤ q
  qs : q ≤ S.length
  ah : ∀ p ∈ T.ahead, ∃ i : Nat, c ≤ i ∧ i < q ∧ (i : Int) < c + (R - T.unread.length) ∧ p.1 = nm f i ∧ S[i]? = some p.2
  ur : (T.unread.length : Int) ≤ R
  ov : T.over = (S.take c).any isE
  gt : got ++ T.unread = (S.take c).filter isI
theorem isI_iff {d : D} (h1 : isE d = false) (h2 : isOO d = false) : isI d = true := by unfold isI; rw [h1, h2]; rfl
theorem any_take {S : List D} {i : Nat} {d : D} (h : S[i]? = some d) : (S.take (i + 1)).any isE = ((S.take i).any isE || isE d) := by
  have : S.take (i + 1) = S.take i ++ [d] := by rw [List.take_succ, h]; rfl
  rw [this, List.any_append]; simp
theorem filter_take {S : List D} {i : Nat} {d : D} (h : S[i]? = some d) : (S.take (i + 1)).filter isI = (S.take i).filter isI ++ (if isI d = true then [d] else []) := by
  have : S.take (i + 1) = S.take i ++ [d] := by rw [List.take_succ, h]; rfl
  rw [this, List.filter_append, List.filter_cons, List.filter_nil]
section
variable {f : Int} {S : List D} {R : Int} {q c : Nat} {got : List D} {T : Tv}
theorem St.over {c : Nat} (hS : St S) (h : (S.take c).any isE = true) : S.length ≤ c := by
  rw [List.any_eq_true] at h
  obtain ⟨d, hd, he⟩ := h
  obtain ⟨i, hi⟩ := List.mem_iff_getElem?.mp hd
  have hil := lt_of_get hi
  rw [List.length_take] at hil
  rw [List.getElem?_take_of_lt (by omega)] at hi
  have := hS.e i d hi he
  omega
theorem put1_TJ {number free w0 : Int} {a s : Nat} {d : D} (hS : St S) (hR : R ≤ 128) (h : TJ f S R q c got T) (hw : w0 = T.wanted) (hf : free = R - T.unread.length) (hn : number = nm f a) (hd : S[a + s]? = some d) (ha : a + s < q) :
    TJ f S R q c got (T.put1 w0 free number s d) ∧ (a + s = c → 0 < free → (T.put1 w0 free number s d).ahead.lookup T.wanted ≠ none) := by
  have hlen := hS.len
  have hqs := h.qs
  have hcq := h.cq
  have hur := h.ur
  have en : (number + (s : Int)) % 4294967296 = nm f (a + s) := by rw [hn]; unfold nm; push_cast; omega
  unfold Tv.put1
  rw [en]
  split
  · rename_i hc
    obtain ⟨h1, h2⟩ := hc
    have hcs : c ≤ a + s ∧ ((a + s : Nat) : Int) < c + free := by
      rw [hw, h.w] at h1
      unfold nm at h1
      generalize a + s = x at *
      omega
    refine ⟨⟨h.w, h.r, h.cq, h.qs, fun p hp => ?_, h.ur, h.ov, h.gt⟩, fun e _ => ?_⟩
    · rcases List.mem_append.mp hp with hp | hp
      · exact h.ah p hp
      · rw [List.mem_singleton] at hp
        subst hp
        exact ⟨a + s, hcs.1, ha, by show ((a + s : Nat) : Int) < c + (R - T.unread.length); rw [← hf]; exact hcs.2, rfl, hd⟩
    · rw [e, ← h.w, List.lookup_append]
      cases T.ahead.lookup T.wanted with
      | some x => simp
      | none => simp
  · rename_i hc
    refine ⟨h, fun e hf0 hz => hc ⟨?_, ?_⟩⟩
    · rw [hw, h.w, e]
      have : (nm f c - nm f c) % 4294967296 = 0 := by rw [Int.sub_self]; rfl
      rw [this]; exact hf0
    · rw [e, ← h.w]; exact hz
theorem put1_look {w0 free number k : Int} {s : Nat} {d : D} (h : T.ahead.lookup k ≠ none) : (T.put1 w0 free number s d).ahead.lookup k ≠ none := by
  unfold Tv.put1
  split
  · rw [List.lookup_append]
    cases q : T.ahead.lookup k with
    | some x => simp
    | none => exact absurd q h
  · exact h
theorem puts_TJ {number : Int} {a : Nat} {ds : List D} (hS : St S) (hR : R ≤ 128) (h : TJ f S R q c got T) (hn : number = nm f a) (hd : ∀ (s : Nat) (d : D), ds[s]? = some d → S[a + s]? = some d ∧ a + s < q) : ∀ n, n ≤ ds.length →
    TJ f S R q c got (T.puts T.wanted (R - T.unread.length) number ds n) ∧ (a ≤ c → c < a + n → 0 < R - (T.unread.length : Int) → (T.puts T.wanted (R - T.unread.length) number ds n).ahead.lookup T.wanted ≠ none)
  | 0, _ => ⟨h, fun _ _ => by omega⟩
  | n + 1, hl => by
    obtain ⟨h1, h2⟩ := puts_TJ hS hR h hn hd n (by omega)
    obtain ⟨p1, p2, p3, p4, _⟩ := puts_same (T := T) (w0 := T.wanted) (free := R - T.unread.length) (number := number) (ds := ds) n
    obtain ⟨d, hds⟩ : ∃ d, ds[n]? = some d := ⟨_, List.getElem?_eq_getElem (by omega)⟩
    obtain ⟨hd1, hd2⟩ := hd n d hds
    unfold Tv.puts
    rw [hds]
    obtain ⟨k1, k2⟩ := put1_TJ hS hR h1 p1.symm (by rw [p3]) hn hd1 hd2
    refine ⟨k1, fun ha hc hf => ?_⟩
    rw [p1] at k2
    by_cases e : a + n = c
    · exact k2 e hf
    · exact put1_look (h2 ha (by omega) hf)
theorem drain_TJ (hS : St S) : ∀ (n : Nat) {T : Tv} {c : Nat}, TJ f S R q c got T → T.ahead.length < n → ∃ c', c ≤ c' ∧ TJ f S R q c' got (T.drain n) ∧ (T.drain n).ahead.lookup (T.drain n).wanted = none ∧ (T.ahead.lookup T.wanted ≠ none → c < c')
  | 0, T, c, h, hl => absurd hl (Nat.not_lt_zero _)
  | n + 1, T, c, h, hl => by
    have hlen := hS.len
    have hqs := h.qs
    have hcq := h.cq
    unfold Tv.drain
    cases hk : T.ahead.lookup T.wanted with
    | none => exact ⟨c, Nat.le_refl _, h, hk, fun z => absurd rfl z⟩
    | some d =>
      obtain ⟨i, i1, i2, i3, i4, i5⟩ := h.ah _ (look_mem hk)
      have hi : i = c := by
        have e : nm f i = nm f c := by rw [← i4, h.w]
        unfold nm at e
        omega
      subst hi
      have hno : T.over = false := by
        cases hov : T.over with
        | false => rfl
        | true =>
          rw [h.ov] at hov
          have := hS.over hov
          omega
      simp only
      rw [if_neg (show ¬ T.over = true by rw [hno]; decide)]
      have hitm := hS.itm d (List.mem_of_getElem? i5)
      have hw1 : (T.wanted + 1) % 4294967296 = nm f (i + 1) := by rw [h.w]; unfold nm; push_cast; omega
      have hnE : (S.take i).any isE = false := by rw [← h.ov]; exact hno
      obtain ⟨A1, hA1⟩ : ∃ A1, A1 = T.ahead.filter fun p => decide (p.1 ≠ T.wanted) := ⟨_, rfl⟩
      have hA2 : ∀ p ∈ A1, ∃ j : Nat, i + 1 ≤ j ∧ j < q ∧ (j : Int) < i + (R - T.unread.length) ∧ p.1 = nm f j ∧ S[j]? = some p.2 := fun p hp => by
        rw [hA1, List.mem_filter] at hp
        obtain ⟨j, j1, j2, j3, j4, j5⟩ := h.ah p hp.1
        have hne := of_decide_eq_true hp.2
        have : j ≠ i := fun e => hne (by rw [j4, e, h.w])
        exact ⟨j, by omega, j2, j3, j4, j5⟩
      have hlA : A1.length < T.ahead.length := by rw [hA1]; exact filter_lt hk
      rw [← hA1]
      have step : ∃ T1, T1 = Tv.come { T with ahead := A1 } d ∧ TJ f S R q (i + 1) got T1 ∧ T1.ahead.length ≤ A1.length := by
        refine ⟨_, rfl, ?_, ?_⟩
        · have fe := filter_take i5
          have ae := any_take i5
          unfold Tv.come
          cases hE : isE d with
          | true =>
            have hI : isI d = false := by unfold isI; rw [hE]; rfl
            rw [hI] at fe
            simp only [if_true]
            exact ⟨hw1, h.r, by omega, h.qs, fun p hp => (by cases hp), h.ur, by rw [ae, hE, Bool.or_true], by rw [fe, if_neg (by decide), List.append_nil]; exact h.gt⟩
          | false =>
            simp only [Bool.false_eq_true, if_false]
            cases hO : isOO d with
            | true =>
              have hI : isI d = false := by unfold isI; rw [hO]; simp
              rw [hI] at fe
              simp only [if_true]
              refine ⟨hw1, h.r, by omega, h.qs, fun p hp => ?_, h.ur, by rw [ae, hE, hnE]; exact hno, by rw [fe, if_neg (by decide), List.append_nil]; exact h.gt⟩
              obtain ⟨j, j1, j2, j3, j4, j5⟩ := hA2 p hp
              exact ⟨j, j1, j2, by show (j : Int) < ((i + 1 : Nat) : Int) + (R - T.unread.length); omega, j4, j5⟩
            | false =>
              rw [isI_iff hE hO] at fe
              simp only [Bool.false_eq_true, if_false]
              refine ⟨hw1, h.r, by omega, h.qs, fun p hp => ?_, ?_, by rw [ae, hE, hnE]; exact hno, ?_⟩
              · obtain ⟨j, j1, j2, j3, j4, j5⟩ := hA2 p hp
                refine ⟨j, j1, j2, ?_, j4, j5⟩
                show (j : Int) < ((i + 1 : Nat) : Int) + (R - ((T.unread ++ [d]).length : Nat))
                rw [List.length_append]
                simp only [List.length_cons, List.length_nil]
                omega
              · show ((T.unread ++ [d]).length : Int) ≤ R
                rw [List.length_append]
                simp only [List.length_cons, List.length_nil]
                omega
              · show got ++ (T.unread ++ [d]) = _
                rw [fe, if_pos rfl, ← List.append_assoc, h.gt]
        · unfold Tv.come
          split
          · exact Nat.zero_le _
          · split <;> exact Nat.le_refl _
      obtain ⟨T1, hT1, j1, j2⟩ := step
      rw [← hT1]
      obtain ⟨c', k1, k2, k3, _⟩ := drain_TJ hS n j1 (by omega)
      exact ⟨c', by omega, k2, k3, fun _ => by omega⟩
/-- settled: the next one is not there -/
structure TI (f : Int) (S : List D) (R : Int) (q c : Nat) (got : List D) (T : Tv) : Prop extends TJ f S R q c got T where
  nd : T.ahead.lookup T.wanted = none
theorem take_TI {number : Int} {a : Nat} {ds : List D} (hS : St S) (hR : R ≤ 128) (h : TI f S R q c got T) (hn : number = nm f a) (hd : ∀ (s : Nat) (d : D), ds[s]? = some d → S[a + s]? = some d ∧ a + s < q) :
    ∃ c', c ≤ c' ∧ TI f S R q c' got (T.take number ds) ∧ (a ≤ c → c < a + ds.length → 0 < R - (T.unread.length : Int) → c < c') := by
  unfold Tv.take
  split
  · rename_i ho
    refine ⟨c, Nat.le_refl _, h, fun ha hc _ => ?_⟩
    rw [h.ov] at ho
    have := hS.over ho
    obtain ⟨d, hds⟩ : ∃ d, ds[c - a]? = some d := ⟨_, List.getElem?_eq_getElem (by omega)⟩
    have := (hd _ d hds).2
    have := h.qs
    omega
  · rw [h.r]
    obtain ⟨h1, h2⟩ := puts_TJ hS hR h.toTJ hn hd ds.length (Nat.le_refl _)
    obtain ⟨p1, _⟩ := puts_same (T := T) (w0 := T.wanted) (free := R - T.unread.length) (number := number) (ds := ds) ds.length
    obtain ⟨c', k1, k2, k3, k4⟩ := drain_TJ hS _ h1 (Nat.lt_succ_self _)
    rw [p1] at k4
    exact ⟨c', k1, ⟨k2, k3⟩, fun ha hc hf => k4 (h2 ha hc hf)⟩
theorem TI.read {n : Nat} (h : TI f S R q c got T) : TI f S R q c (got ++ T.unread.take n) { T with unread := T.unread.drop n } := by
  refine ⟨⟨h.w, h.r, h.cq, h.qs, fun p hp => ?_, ?_, h.ov, ?_⟩, h.nd⟩
  · obtain ⟨i, h1, h2, h3, h4, h5⟩ := h.ah p hp
    refine ⟨i, h1, h2, ?_, h4, h5⟩
    show (i : Int) < c + (R - ((T.unread.drop n).length : Nat))
    rw [List.length_drop]; omega
  · show ((T.unread.drop n).length : Int) ≤ R
    have := h.ur
    rw [List.length_drop]; omega
  · show got ++ T.unread.take n ++ T.unread.drop n = _
    rw [List.append_assoc, List.take_append_drop]; exact h.gt
theorem TI.more {X : List D} {q' : Nat} (h : TI f S R q c got T) (hq : q ≤ q') (hs : q' ≤ (S ++ X).length) : TI f (S ++ X) R q' c got T := by
  have hcs : c ≤ S.length := Nat.le_trans h.cq h.qs
  have et : (S ++ X).take c = S.take c := List.take_append_of_le_length hcs
  refine ⟨⟨h.w, h.r, Nat.le_trans h.cq hq, hs, fun p hp => ?_, h.ur, by rw [et]; exact h.ov, by rw [et]; exact h.gt⟩, h.nd⟩
  obtain ⟨i, h1, h2, h3, h4, h5⟩ := h.ah p hp
  exact ⟨i, h1, by omega, h3, h4, by rw [List.getElem?_append_left (lt_of_get h5)]; exact h5⟩
end

structure GI (f : Int) (S : List D) (p q : Nat) (G : Gv) : Prop where
  b : G.base = nm f p
  k : G.kept = S.drop p
  s : G.sent = (q : Int) - p
  ps : G.passed = p
  pq : p ≤ q
  qs : q ≤ S.length
structure GP (fw most : Int) (G : Gv) : Prop where
  f : G.fw = fw
  f1 : 1 ≤ fw
  m : G.most = most
  m1 : 1 ≤ most
  m2 : most ≤ 200
  w1 : fw ≤ G.wait
  w2 : G.wait ≤ 16 * fw
  pc : 1 ≤ G.pace
  rc : 0 ≤ G.reach
theorem nm_rg {f : Int} {i : Nat} : 0 ≤ nm f i ∧ nm f i < 4294967296 := by unfold nm; omega
theorem nm_sub {f : Int} {p c : Nat} (hp : p ≤ c) (hc : c ≤ 100000) : (nm f c - nm f p) % 4294967296 = (c : Int) - p := by unfold nm; omega
section
variable {f fw most t fr : Int} {S : List D} {p q c : Nat} {G : Gv}
theorem GI.kl (h : GI f S p q G) : (G.kept.length : Int) = (S.length : Int) - p := by
  have := h.pq
  have := h.qs
  rw [h.k, List.length_drop]; omega
theorem drop_get {s : Nat} {d : D} {k : Nat} (h : ((S.drop p).take k)[s]? = some d) : S[p + s]? = some d ∧ s < k := by
  have hl := lt_of_get h
  rw [List.length_take] at hl
  rw [List.getElem?_take_of_lt (by omega), List.getElem?_drop] at h
  exact ⟨h, by omega⟩
def PosOk (f : Int) (S : List D) (p q : Nat) (P : Int × List D) : Prop := ∃ a, P.1 = nm f a ∧ p ≤ a ∧ ∀ (s : Nat) (d : D), P.2[s]? = some d → S[a + s]? = some d ∧ a + s < q
theorem due_same : (G.due2 t).kept = G.kept ∧ (G.due2 t).base = G.base ∧ (G.due2 t).sent = G.sent ∧ (G.due2 t).most = G.most ∧ (G.due2 t).reach = G.reach ∧ (G.due2 t).fw = G.fw ∧ (G.due2 t).passed = G.passed := by
  unfold Gv.due2 Gv.again
  split <;> exact ⟨rfl, rfl, rfl, rfl, rfl, rfl, rfl⟩
theorem due_GI (h : GI f S p q G) (hp : GP fw most G) (hl : S.length ≤ 100000) : ∃ q', q ≤ q' ∧ GI f S p q' (G.dueG t) ∧ GP fw most (G.dueG t) ∧ (∀ P ∈ G.dueP t, PosOk f S p q' P) ∧ (G.dueG t).now = t ∧ (q' : Int) = p + max G.sent (G.due2 t).end_ := by
  have kl := h.kl
  have hs := h.s
  have pq := h.pq
  have qs := h.qs
  obtain ⟨d1, d2, d3, d4, d5, d6, d7⟩ := due_same (G := G) (t := t)
  have hm1 := hp.m1
  have hend : (G.due2 t).end_ ≤ (S.length : Int) - p := by unfold Gv.end_; rw [d1, ← kl]; omega
  obtain ⟨q', hq'⟩ : ∃ q' : Nat, (q' : Int) = p + max G.sent (G.due2 t).end_ := ⟨(p + max G.sent (G.due2 t).end_).toNat, by omega⟩
  refine ⟨q', by omega, ⟨?_, ?_, ?_, ?_, by omega, by omega⟩, ?_, fun P hP => ?_, ?_, hq'⟩
  · show (G.due2 t).base = _; rw [d2]; exact h.b
  · show (G.due2 t).kept = _; rw [d1]; exact h.k
  · show max (G.due2 t).sent (G.due2 t).end_ = _; rw [d3]; omega
  · show (G.due2 t).passed = _; rw [d7]; exact h.ps
  · have w1 := hp.w1
    have w2 := hp.w2
    have ff := hp.f
    have f1 := hp.f1
    have e : fw ≤ (G.due2 t).wait ∧ (G.due2 t).wait ≤ 16 * fw ∧ 1 ≤ (G.due2 t).pace := by
      unfold Gv.due2 Gv.again
      split
      · have a : (G.due1 t).wait = G.wait := rfl
        have b : (G.due1 t).fw = G.fw := rfl
        have c : (G.due1 t).most = G.most := rfl
        refine ⟨?_, ?_, ?_⟩
        · show fw ≤ min (2 * (G.due1 t).wait) (16 * (G.due1 t).fw); rw [a, b]; omega
        · show min (2 * (G.due1 t).wait) (16 * (G.due1 t).fw) ≤ 16 * fw; rw [b]; omega
        · show 1 ≤ (G.due1 t).most; rw [c, hp.m]; exact hp.m1
      · exact ⟨w1, w2, hp.pc⟩
    exact ⟨by show (G.due2 t).fw = fw; rw [d6]; exact ff, f1, by show (G.due2 t).most = most; rw [d4]; exact hp.m, hm1, hp.m2, e.1, e.2.1, e.2.2, by show 0 ≤ (G.due2 t).reach; rw [d5]; exact hp.rc⟩
  · unfold Gv.dueP at hP
    rcases List.mem_append.mp hP with hP | hP
    · unfold Gv.againP at hP
      split at hP
      · rw [List.mem_singleton] at hP
        subst hP
        refine ⟨p, h.b, Nat.le_refl _, fun s d hd => ?_⟩
        have hd' : ((S.drop p).take (min G.most G.sent).toNat)[s]? = some d := by rw [← h.k]; exact hd
        obtain ⟨x, y⟩ := drop_get hd'
        exact ⟨x, by omega⟩
      · cases hP
    · unfold chkPs at hP
      obtain ⟨i, hi, rfl⟩ := List.mem_map.mp hP
      rw [List.mem_range, d3, d4] at hi
      have hi' := (cnt_lt (by rw [hp.m]; omega)).mp hi
      rw [hp.m] at hi'
      have hx : 0 ≤ (i : Int) * most := Int.mul_nonneg (by omega) (by omega)
      unfold chkP
      rw [d1, d2, d3, d4, hp.m, h.b, h.k, hs]
      rw [hs] at hi'
      generalize (i : Int) * most = X at *
      obtain ⟨x, hxx⟩ := Int.eq_ofNat_of_zero_le (show 0 ≤ (q : Int) - p + X by omega)
      refine ⟨p + x, ?_, by omega, fun s d hd => ?_⟩
      · show (nm f p + ((q : Int) - p + X)) % 4294967296 = _
        rw [hxx]; unfold nm; push_cast; omega
      · have hd' : ((S.drop p).drop x |>.take ((x + min most ((G.due2 t).end_ - x)).toNat - x))[s]? = some d := by
          have hd0 := hd
          simp only at hd0
          rw [hxx] at hd0
          simpa using hd0
        rw [List.drop_drop] at hd'
        obtain ⟨y, z⟩ := drop_get hd'
        exact ⟨by rw [← y], by omega⟩
  · exact (due_kept (G := G) (t := t)).2.2
theorem count_since {X : Gv} {u : Int} (h : (X.count t).since = some u) : u = t ∨ X.since = some u := by
  unfold Gv.count at h
  simp only at h
  split at h
  · split at h
    · cases h; exact .inl rfl
    · exact .inr h
  · cases h
theorem heard_GI (h : GI f S p q G) (hp : GP fw most G) (hl : S.length ≤ 100000) (hc : p ≤ c) (hcq : c ≤ q) (hfr : 0 ≤ fr) (hsi : ∀ u, G.since = some u → u ≤ t) :
    GI f S c q (G.heardG (nm f c) fr t) ∧ GP fw most (G.heardG (nm f c) fr t) ∧ (G.heardG (nm f c) fr t).now = t ∧ (∀ u, (G.heardG (nm f c) fr t).since = some u → u ≤ t) ∧
      (p < c → (G.heardG (nm f c) fr t).wait = fw) ∧
      (c = p → (G.heardG (nm f c) fr t).wait = G.wait ∧ (G.heardG (nm f c) fr t).reach = max G.reach fr ∧ ∀ u, 0 < G.sent → G.since = some u → (G.heardG (nm f c) fr t).since = some u) := by
  have pq := h.pq
  have qs := h.qs
  have hs := h.s
  have em : (nm f c - G.base) % 4294967296 = (c : Int) - p := by rw [h.b]; exact nm_sub hc (by omega)
  have hm : ¬ G.sent < (c : Int) - p := by omega
  have e : G.heardG (nm f c) fr t = Gv.count { G with now := t, tried := 0, base := nm f c, kept := G.kept.drop ((c : Int) - p).toNat, sent := G.sent - ((c : Int) - p), passed := G.passed + ((c : Int) - p), reach := max (G.reach - ((c : Int) - p)) fr, wait := if 0 < (c : Int) - p then G.fw else G.wait, since := if 0 < (c : Int) - p then none else G.since, pace := if 0 < (c : Int) - p then min 512 (G.pace + G.most) else G.pace } t := by
    unfold Gv.heardG
    simp only [em]
    rw [if_neg hm]
  rw [e]
  have ff := hp.f
  have f1 := hp.f1
  have hmo := hp.m
  have hm1 := hp.m1
  have w1 := hp.w1
  have w2 := hp.w2
  have hpc := hp.pc
  refine ⟨⟨rfl, ?_, ?_, ?_, hcq, qs⟩, ⟨ff, f1, hmo, hm1, hp.m2, ?_, ?_, ?_, ?_⟩, rfl, fun u hu => ?_, fun hlt => ?_, fun heq => ⟨?_, ?_, fun u hs0 hu => ?_⟩⟩
  · show G.kept.drop _ = _
    rw [h.k, List.drop_drop]; congr 1; omega
  · show G.sent - _ = _; omega
  · show G.passed + _ = _; rw [h.ps]; omega
  · show fw ≤ if 0 < (c : Int) - p then G.fw else G.wait
    split <;> omega
  · show (if 0 < (c : Int) - p then G.fw else G.wait) ≤ 16 * fw
    split <;> omega
  · show 1 ≤ if 0 < (c : Int) - p then min 512 (G.pace + G.most) else G.pace
    split <;> omega
  · show 0 ≤ max _ fr; omega
  · rcases count_since hu with e1 | e1
    · omega
    · have e2 : (if 0 < (c : Int) - p then none else G.since) = some u := e1
      split at e2
      · cases e2
      · exact hsi u e2
  · show (if 0 < (c : Int) - p then G.fw else G.wait) = fw
    rw [if_pos (by omega)]; exact ff
  · show (if 0 < (c : Int) - p then G.fw else G.wait) = G.wait
    rw [if_neg (by omega)]
  · show max (G.reach - _) fr = _
    rw [show (c : Int) - p = 0 by omega, Int.sub_zero]
  · have z : (c : Int) - p = 0 := by omega
    unfold Gv.count Gv.counted
    simp only [z, Int.lt_irrefl, if_false, hu, Int.sub_zero, decide_eq_true hs0, Bool.true_or, if_true, Option.isNone_some, Bool.false_eq_true]
theorem heard_old (h : GI f S p q G) (hl : S.length ≤ 100000) (hc : c < p) : G.heardG (nm f c) fr t = { G with now := t } := by
  have pq := h.pq
  have qs := h.qs
  have hs := h.s
  have em : G.sent < (nm f c - G.base) % 4294967296 := by rw [h.b]; unfold nm; omega
  unfold Gv.heardG
  simp only
  rw [if_pos em]
theorem GI.now {n : Int} (h : GI f S p q G) : GI f S p q { G with now := n } := ⟨h.b, h.k, h.s, h.ps, h.pq, h.qs⟩
theorem GP.now {n : Int} (h : GP fw most G) : GP fw most { G with now := n } := ⟨h.f, h.f1, h.m, h.m1, h.m2, h.w1, h.w2, h.pc, h.rc⟩
end

/-- one pair brought, answered at once -/
def dl (t : Int) (GT : Gv × Tv) (P : Int × List D) : Gv × Tv := (GT.1.heardG (GT.2.take P.1 P.2).wanted ((GT.2.take P.1 P.2).room - (GT.2.take P.1 P.2).unread.length) t, GT.2.take P.1 P.2)
structure Jn (f fw most t R : Int) (S : List D) (p0 c0 q : Nat) (got : List D) (G1 : Gv) (p c : Nat) (GT : Gv × Tv) : Prop where
  gi : GI f S p q GT.1
  gp : GP fw most GT.1
  ti : TI f S R q c got GT.2
  lp : p0 ≤ p
  lc : c0 ≤ c
  g1 : G1.sent = (q : Int) - p0
  pc : p ≤ c
  si : ∀ u, GT.1.since = some u → u ≤ t
  up : p0 < p → GT.1.wait = fw
  no : p = p0 → GT.1.wait = G1.wait ∧ G1.reach ≤ GT.1.reach ∧ ∀ u, 0 < G1.sent → G1.since = some u → GT.1.since = some u
  nw : GT.1.now = t
section
variable {f fw most t R : Int} {S : List D} {p0 c0 p q c : Nat} {G G1 : Gv} {T : Tv} {got : List D} {GT : Gv × Tv} {P : Int × List D}
theorem dl_Jn (hS : St S) (hR : R ≤ 128) (h : Jn f fw most t R S p0 c0 q got G1 p c GT) (hP : PosOk f S p0 q P) : ∃ c', c ≤ c' ∧ Jn f fw most t R S p0 c0 q got G1 c' c' (dl t GT P) ∧ (p < c' → p0 < c') ∧
    ((GT.1.reach ≤ (dl t GT P).1.reach ∨ p < c') ∧ (c' = p → R - ((GT.2.take P.1 P.2).unread.length : Int) ≤ (dl t GT P).1.reach)) ∧
    (∀ a, P.1 = nm f a → (∀ (s : Nat) (d : D), P.2[s]? = some d → S[a + s]? = some d ∧ a + s < q) → a ≤ c → c < a + P.2.length → 0 < R - (GT.2.unread.length : Int) → c < c') := by
  obtain ⟨a, ha, hpa, hd⟩ := hP
  have hl := hS.len
  obtain ⟨c', h1, h2, h3⟩ := take_TI hS hR h.ti ha hd
  have hcp : p ≤ c' := Nat.le_trans h.pc h1
  have hfr : 0 ≤ (GT.2.take P.1 P.2).room - ((GT.2.take P.1 P.2).unread.length : Int) := by
    have := h2.ur
    have := h2.r
    omega
  obtain ⟨k1, k2, k3, k4, k5, k6⟩ := heard_GI (t := t) (c := c') (fr := (GT.2.take P.1 P.2).room - ((GT.2.take P.1 P.2).unread.length : Int)) h.gi h.gp hl hcp h2.cq hfr h.si
  have e : (dl t GT P).1 = GT.1.heardG (nm f c') ((GT.2.take P.1 P.2).room - ((GT.2.take P.1 P.2).unread.length : Int)) t := by unfold dl; rw [h2.w]
  have e2 : (dl t GT P).2 = GT.2.take P.1 P.2 := rfl
  refine ⟨c', h1, ⟨by rw [e]; exact k1, by rw [e]; exact k2, by rw [e2]; exact h2, Nat.le_trans h.lp hcp, Nat.le_trans h.lc h1, h.g1, Nat.le_refl _, by rw [e]; exact k4, fun hlt => ?_, fun heq => ?_, by rw [e]; exact k3⟩, fun hlt => Nat.lt_of_le_of_lt h.lp hlt, ⟨?_, ?_⟩, ?_⟩
  · rw [e]
    rcases Nat.lt_or_ge p c' with z | z
    · exact k5 z
    · have : c' = p := by omega
      rw [(k6 this).1]
      exact h.up (by omega)
  · have hp : p = p0 := by have := h.lp; omega
    have hc : c' = p := by omega
    obtain ⟨n1, n2, n3⟩ := h.no hp
    obtain ⟨m1, m2, m3⟩ := k6 hc
    rw [e]
    refine ⟨m1.trans n1, by rw [m2]; omega, fun u hs hu => ?_⟩
    have := n3 u hs hu
    refine m3 u ?_ this
    rw [h.gi.s]
    have := h.g1
    omega
  · rcases Nat.lt_or_ge p c' with z | z
    · exact .inr z
    · left
      rw [e, (k6 (by omega)).2.1]; omega
  · intro hc
    rw [e, (k6 hc).2.1, h2.r]; omega
  · intro a' ha' hd' hac hca hf
    obtain ⟨c'', h1', h2', h3'⟩ := take_TI hS hR h.ti ha' hd'
    have : c'' = c' := by
      have e1 := h2.w
      have e2 := h2'.w
      rw [e1] at e2
      have := h2.cq
      have := h2.qs
      have := h2'.cq
      unfold nm at e2
      omega
    rw [← this]
    exact h3' hac hca hf
theorem fold_Jn (hS : St S) (hR : R ≤ 128) : ∀ (L : List (Int × List D)) {GT : Gv × Tv} {p c : Nat}, Jn f fw most t R S p0 c0 q got G1 p c GT → (∀ P ∈ L, PosOk f S p0 q P) → ∃ p' c', p ≤ p' ∧ Jn f fw most t R S p0 c0 q got G1 p' c' (L.foldl (dl t) GT)
  | [], GT, p, c, h, _ => ⟨p, c, Nat.le_refl _, h⟩
  | P :: L, GT, p, c, h, hP => by
    obtain ⟨c', h1, h2, _⟩ := dl_Jn hS hR h (hP P List.mem_cons_self)
    obtain ⟨p2, c2, h3, h4⟩ := fold_Jn hS hR L h2 fun Q hQ => hP Q (List.mem_cons_of_mem _ hQ)
    exact ⟨p2, c2, by have := h.pc; omega, h4⟩
/-- how long until it goes on -/
def nuR (G : Gv) (t : Int) : Int := match G.since with
  | none => G.wait
  | some u => max 0 (u + G.wait - t)
def nu (G : Gv) (t : Int) : Int := if 0 < G.sent then nuR G t else if G.reach = 0 then nuR G t + 1 else 0
theorem nu_le {w : Int} (h : G.wait ≤ w) (h0 : 0 ≤ w) (hs : ∀ u, G.since = some u → u ≤ t) : nu G (t + 1) ≤ w + 1 := by
  have : nuR G (t + 1) ≤ w := by
    unfold nuR
    cases q : G.since with
    | none => exact h
    | some u => have := hs u q; simp only; omega
  unfold nu
  split
  · omega
  · split <;> omega
theorem start_Jn (g : GI f S p q G) (gp : GP fw most G) (hS : St S) (ti : TI f S R q c got T) (pc : p ≤ c) (si : ∀ u, G.since = some u → u < t) :
    ∃ q', q ≤ q' ∧ Jn f fw most t R S p c q' got (G.dueG t) p c (G.dueG t, T) ∧ (∀ P ∈ G.dueP t, PosOk f S p q' P) ∧ (q' : Int) = p + max G.sent (G.due2 t).end_ := by
  obtain ⟨q', h1, h2, h3, h4, h5, h6⟩ := due_GI (t := t) g gp hS.len
  refine ⟨q', h1, ⟨h2, h3, ?_, Nat.le_refl _, Nat.le_refl _, h2.s, pc, fun u hu => ?_, fun z => absurd z (Nat.lt_irrefl _), fun _ => ⟨rfl, Int.le_refl _, fun _ _ x => x⟩, h5⟩, h4, h6⟩
  · have := ti.more (X := []) h1 (by rw [List.append_nil]; exact h2.qs)
    rwa [List.append_nil] at this
  · rcases count_since (X := G.due3 t) hu with e | e
    · omega
    · have e2 : (G.due2 t).since = some u := e
      unfold Gv.due2 Gv.again at e2
      split at e2
      · cases e2; exact Int.le_refl _
      · rcases count_since e2 with e3 | e3
        · omega
        · have := si u e3; omega
theorem tick_ok (hS : St S) (hR : R ≤ 128) (hR1 : 1 ≤ R) (g : GI f S p q G) (gp : GP fw most G) (ti : TI f S R q c got T) (pc : p ≤ c) (ur : T.unread = []) (si : ∀ u, G.since = some u → u < t) (hleft : p < S.length) :
    ∃ p' q' c', Jn f fw most t R S p c q' got (G.dueG t) p' c' ((G.dueP t).foldl (dl t) (G.dueG t, T)) ∧ ((p < p' ∧ nu ((G.dueP t).foldl (dl t) (G.dueG t, T)).1 (t + 1) ≤ fw + 1) ∨ (p' = p ∧ nu ((G.dueP t).foldl (dl t) (G.dueG t, T)).1 (t + 1) + 1 ≤ nu G t)) := by
  obtain ⟨q', hq, J, hL, eq'⟩ := start_Jn (t := t) g gp hS ti pc si
  have kl := g.kl
  have gs := g.s
  have f1 := gp.f1
  have hm1 := gp.m1
  have hfree : 0 < R - (T.unread.length : Int) := by rw [ur]; simp; omega
  obtain ⟨d1, d2, d3, d4, d5, d6, d7⟩ := due_same (G := G) (t := t)
  -- by the first pair
  have first : ∀ (P : Int × List D) (L : List (Int × List D)), G.dueP t = P :: L → P.1 = nm f p → (∀ (s : Nat) (d : D), P.2[s]? = some d → S[p + s]? = some d ∧ p + s < q') → 1 ≤ P.2.length →
      ∃ p' c', Jn f fw most t R S p c q' got (G.dueG t) p' c' ((G.dueP t).foldl (dl t) (G.dueG t, T)) ∧ p < p' := fun P L e h1 h2 h3 => by
    have hP : P ∈ G.dueP t := by rw [e]; exact List.mem_cons_self
    obtain ⟨c', k1, k2, _, _, k5⟩ := dl_Jn hS hR J (hL P hP)
    have hlt : p < c' := by
      rcases Nat.lt_or_ge p c with z | z
      · omega
      · have := k5 p h1 h2 pc (by omega) hfree
        omega
    obtain ⟨p2, c2, k6, k7⟩ := fold_Jn hS hR L k2 fun Q hQ => hL Q (by rw [e]; exact List.mem_cons_of_mem _ hQ)
    exact ⟨p2, c2, by rw [e]; exact k7, by omega⟩
  have prog : ∀ p' c', Jn f fw most t R S p c q' got (G.dueG t) p' c' ((G.dueP t).foldl (dl t) (G.dueG t, T)) → p < p' → ∃ p' q' c', Jn f fw most t R S p c q' got (G.dueG t) p' c' ((G.dueP t).foldl (dl t) (G.dueG t, T)) ∧ ((p < p' ∧ nu ((G.dueP t).foldl (dl t) (G.dueG t, T)).1 (t + 1) ≤ fw + 1) ∨ (p' = p ∧ nu ((G.dueP t).foldl (dl t) (G.dueG t, T)).1 (t + 1) + 1 ≤ nu G t)) := fun p' c' h hlt =>
    ⟨p', q', c', h, .inl ⟨hlt, nu_le (Int.le_of_eq (h.up hlt)) (by omega) h.si⟩⟩
  -- the clock
  have w1 : (G.due1 t).wait = G.wait := rfl
  have b1 : (G.due1 t).base = G.base := rfl
  have k1 : (G.due1 t).kept = G.kept := rfl
  have s1 : (G.due1 t).sent = G.sent := rfl
  have m1 : (G.due1 t).most = G.most := rfl
  have si1 : (G.due1 t).since = if G.counted then (if G.since.isNone then some t else G.since) else none := rfl
  by_cases c1 : 0 < G.sent
  · have hc : G.counted = true := by unfold Gv.counted; rw [decide_eq_true c1]; rfl
    rw [hc, if_pos rfl] at si1
    obtain ⟨u, hu, hnu⟩ : ∃ u, (G.due1 t).since = some u ∧ nu G t = max 0 (u + G.wait - t) := by
      unfold nu nuR
      rw [if_pos c1]
      have hw := gp.w1
      cases qs : G.since with
      | none =>
        rw [qs] at si1
        exact ⟨t, si1, by show G.wait = _; omega⟩
      | some v =>
        rw [qs] at si1
        exact ⟨v, si1, rfl⟩
    cases hlate : (G.due1 t).late t with
    | true =>
      have eL : G.dueP t = (G.base, G.kept.take (min G.most G.sent).toNat) :: chkPs (G.due2 t).kept (G.due2 t).base (G.due2 t).sent (G.due2 t).end_ (G.due2 t).most := by
        unfold Gv.dueP Gv.againP
        rw [hlate, if_pos rfl, b1, k1, s1, m1]; rfl
      have gqs := g.qs
      obtain ⟨p', c', h, hlt⟩ := first _ _ eL g.b (fun s d hd => by
        have hd' : ((S.drop p).take (min G.most G.sent).toNat)[s]? = some d := by rw [← g.k]; exact hd
        obtain ⟨x, y⟩ := drop_get hd'
        exact ⟨x, by omega⟩) (by
        show 1 ≤ (G.kept.take (min G.most G.sent).toNat).length
        have := gp.m
        rw [List.length_take]; omega)
      exact prog p' c' h hlt
    | false =>
      obtain ⟨p', c', _, h⟩ := fold_Jn hS hR (G.dueP t) J hL
      rcases Nat.lt_or_ge p p' with z | z
      · exact prog p' c' h z
      · have hp : p' = p := by have := h.lp; omega
        have hd2 : G.due2 t = G.due1 t := by unfold Gv.due2 Gv.again; rw [hlate]; rfl
        obtain ⟨n1, n2, n3⟩ := h.no hp
        have gw : (G.dueG t).wait = G.wait := by show (G.due2 t).wait = _; rw [hd2]; rfl
        have gs1 : 0 < (G.dueG t).sent := by show 0 < max (G.due2 t).sent (G.due2 t).end_; rw [d3]; omega
        have gsi : (G.dueG t).since = some u := by
          show (Gv.count (G.due3 t) t).since = some u
          have e1 : (G.due3 t).since = some u := by show (G.due2 t).since = some u; rw [hd2]; exact hu
          have e2 : (G.due3 t).counted = true := by
            unfold Gv.counted
            have : 0 < (G.due3 t).sent := gs1
            rw [decide_eq_true this]; rfl
          unfold Gv.count
          simp only [e1, e2, if_true, Option.isNone_some, Bool.false_eq_true, if_false]
        have e1 := n3 u gs1 gsi
        have e2 : 0 < ((G.dueP t).foldl (dl t) (G.dueG t, T)).1.sent := by rw [h.gi.s, hp, ← J.g1]; exact gs1
        have hnl : ¬ G.wait ≤ t - u := by
          unfold Gv.late at hlate
          rw [hu] at hlate
          have h' : decide ((G.due1 t).wait ≤ t - u) = false := hlate
          exact of_decide_eq_false h'
        refine ⟨p', q', c', h, .inr ⟨hp, ?_⟩⟩
        rw [hnu]
        unfold nu nuR
        rw [if_pos e2, e1]
        simp only
        rw [n1, gw]
        omega
  · have qp : q = p := by have := g.pq; omega
    have cp : c = p := by have := ti.cq; omega
    have hk : 0 < (G.kept.length : Int) := by omega
    by_cases c2 : G.reach = 0
    · have hc : G.counted = true := by unfold Gv.counted; rw [decide_eq_true hk, decide_eq_true c2]; simp
      rw [hc, if_pos rfl] at si1
      obtain ⟨u, hu, hnu⟩ : ∃ u, (G.due1 t).since = some u ∧ nu G t = max 0 (u + G.wait - t) + 1 := by
        unfold nu nuR
        rw [if_neg c1, if_pos c2]
        have hw := gp.w1
        cases qs : G.since with
        | none =>
          rw [qs] at si1
          exact ⟨t, si1, by show G.wait + 1 = _; omega⟩
        | some v =>
          rw [qs] at si1
          exact ⟨v, si1, rfl⟩
      have hend : (G.due2 t).end_ ≤ 0 := by unfold Gv.end_; rw [d5]; omega
      have q'p : q' = p := by omega
      have ech : chkPs (G.due2 t).kept (G.due2 t).base (G.due2 t).sent (G.due2 t).end_ (G.due2 t).most = [] := by
        unfold chkPs cnt
        rw [if_neg (by rw [d3]; omega)]; rfl
      cases hlate : (G.due1 t).late t with
      | true =>
        have eL : G.dueP t = [(G.base, G.kept.take (min G.most G.sent).toNat)] := by
          unfold Gv.dueP Gv.againP
          rw [hlate, if_pos rfl, b1, k1, s1, m1, ech]; rfl
        have hP : (G.base, G.kept.take (min G.most G.sent).toNat) ∈ G.dueP t := by rw [eL]; exact List.mem_cons_self
        obtain ⟨c', k1', k2, _, ⟨_, k4⟩, _⟩ := dl_Jn hS hR J (hL _ hP)
        have c'p : c' = p := by have := k2.ti.cq; omega
        have kk := k4 c'p
        have hun : (T.take G.base (G.kept.take (min G.most G.sent).toNat)).unread = [] := by
          have e1 := k2.ti.gt
          have e2 := ti.gt
          rw [c'p, ← cp, ← e2, ur, List.append_nil] at e1
          exact List.append_cancel_left (e1.trans (List.append_nil _).symm)
        rw [hun] at kk
        have hr : 1 ≤ (dl t (G.dueG t, T) (G.base, G.kept.take (min G.most G.sent).toNat)).1.reach := by
          have : ((([] : List D).length : Nat) : Int) = 0 := rfl
          omega
        have hs0 : (dl t (G.dueG t, T) (G.base, G.kept.take (min G.most G.sent).toNat)).1.sent = 0 := by rw [k2.gi.s]; omega
        rw [eL]
        refine ⟨c', q', c', k2, .inr ⟨c'p, ?_⟩⟩
        show nu (dl t (G.dueG t, T) (G.base, G.kept.take (min G.most G.sent).toNat)).1 (t + 1) + 1 ≤ _
        rw [hnu]
        unfold nu
        rw [if_neg (by omega), if_neg (by omega)]
        omega
      | false =>
        have eL : G.dueP t = [] := by
          unfold Gv.dueP Gv.againP
          rw [hlate, ech]; rfl
        have hd2 : G.due2 t = G.due1 t := by unfold Gv.due2 Gv.again; rw [hlate]; rfl
        have hnl : ¬ G.wait ≤ t - u := by
          unfold Gv.late at hlate
          rw [hu] at hlate
          have h' : decide ((G.due1 t).wait ≤ t - u) = false := hlate
          exact of_decide_eq_false h'
        have gw : (G.dueG t).wait = G.wait := by show (G.due2 t).wait = _; rw [hd2]; rfl
        have gs1 : (G.dueG t).sent = 0 := by show max (G.due2 t).sent (G.due2 t).end_ = 0; rw [d3]; omega
        have gr : (G.dueG t).reach = 0 := by show (G.due2 t).reach = 0; rw [d5]; exact c2
        have gsi : (G.dueG t).since = some u := by
          show (Gv.count (G.due3 t) t).since = some u
          have e1 : (G.due3 t).since = some u := by show (G.due2 t).since = some u; rw [hd2]; exact hu
          have e2 : (G.due3 t).counted = true := by
            unfold Gv.counted
            have a : (G.due3 t).reach = 0 := gr
            have b : 0 < ((G.due3 t).kept.length : Int) := by show 0 < ((G.due2 t).kept.length : Int); rw [d1]; exact hk
            rw [decide_eq_true a, decide_eq_true b]; simp
          unfold Gv.count
          simp only [e1, e2, if_true, Option.isNone_some, Bool.false_eq_true, if_false]
        rw [eL]
        refine ⟨p, q', c, J, .inr ⟨rfl, ?_⟩⟩
        show nu (G.dueG t) (t + 1) + 1 ≤ _
        rw [hnu]
        unfold nu nuR
        rw [if_neg (by omega), if_pos gr, gsi]
        simp only
        rw [gw]
        omega
    · have hc : G.counted = false := by unfold Gv.counted; rw [decide_eq_false c1, decide_eq_false c2]; simp
      rw [hc] at si1
      have hlate : (G.due1 t).late t = false := by unfold Gv.late; rw [si1]; rfl
      have hd2 : G.due2 t = G.due1 t := by unfold Gv.due2 Gv.again; rw [hlate]; rfl
      have rc := gp.rc
      have pcc := gp.pc
      have hend : 1 ≤ (G.due2 t).end_ := by
        unfold Gv.end_
        rw [d1, d5, hd2]
        have : (G.due1 t).pace = G.pace := rfl
        rw [this]; omega
      obtain ⟨n, hn⟩ : ∃ n, cnt (G.due2 t).sent (G.due2 t).end_ (G.due2 t).most = n + 1 := by
        have := (cnt_lt (i := 0) (s := (G.due2 t).sent) (e := (G.due2 t).end_) (c := (G.due2 t).most) (by rw [d4, gp.m]; omega)).mpr (by rw [d3]; simp; omega)
        exact ⟨cnt (G.due2 t).sent (G.due2 t).end_ (G.due2 t).most - 1, by omega⟩
      have eL : G.dueP t = chkP (G.due2 t).kept (G.due2 t).base (G.due2 t).sent (G.due2 t).end_ (G.due2 t).most 0 :: ((List.range n).map Nat.succ).map (chkP (G.due2 t).kept (G.due2 t).base (G.due2 t).sent (G.due2 t).end_ (G.due2 t).most) := by
        unfold Gv.dueP Gv.againP chkPs
        rw [hlate, hn, List.range_succ_eq_map]; rfl
      have e0 : chkP (G.due2 t).kept (G.due2 t).base (G.due2 t).sent (G.due2 t).end_ (G.due2 t).most 0 = (nm f p, (S.drop p).take (min most (G.due2 t).end_).toNat) := by
        unfold chkP
        have z : G.sent = 0 := by omega
        rw [d1, d2, d3, d4, gp.m, z, g.b, g.k]
        have a1 : (0 : Int) + ((0 : Nat) : Int) * most = 0 := by simp
        rw [a1]
        have := (nm_rg (f := f) (i := p))
        congr 1
        · omega
        · rw [show (0 : Int).toNat = 0 from rfl, List.drop_zero]
          congr 1
          simp
      obtain ⟨p', c', h, hlt⟩ := first _ _ eL (by rw [e0]) (fun s d hd => by
        rw [e0] at hd
        obtain ⟨x, y⟩ := drop_get hd
        exact ⟨x, by omega⟩) (by
        rw [e0]
        show 1 ≤ ((S.drop p).take (min most (G.due2 t).end_).toNat).length
        rw [List.length_take, List.length_drop]; omega)
      exact prog p' c' h hlt
end

/-! keys unlike, counts, the whole of it -/
theorem look_ne {L : List (Int × D)} {p : Int × D} (h : L.lookup p.1 = none) : ¬ p ∈ L := by
  induction L with
  | nil => simp
  | cons q L ih =>
    obtain ⟨a, d⟩ := q
    rw [look_cons_i] at h
    intro hp
    by_cases c : p.1 = a
    · rw [if_pos c] at h; cases h
    · rw [if_neg c] at h
      rcases List.mem_cons.mp hp with rfl | hp
      · exact c rfl
      · exact ih h hp
theorem pigeon : ∀ (n : Nat) (l : List Int), l.Nodup → (∀ x ∈ l, 0 ≤ x ∧ x < n) → l.length ≤ n
  | 0, l, _, h => by
    cases l with
    | nil => exact Nat.le_refl 0
    | cons x l => have := h x List.mem_cons_self; omega
  | n + 1, l, nd, h => by
    by_cases c : (n : Int) ∈ l
    · have h1 := pigeon n (l.erase n) (nd.erase _) fun x hx => by
        have hm := (nd.mem_erase_iff).mp hx
        have := h x hm.2
        have := hm.1
        omega
      rw [List.length_erase_of_mem c] at h1
      omega
    · have := pigeon n l nd fun x hx => by
        have := h x hx
        have : x ≠ n := fun e => c (e ▸ hx)
        omega
      omega
def Nk (T : Tv) : Prop := T.ahead.Pairwise fun a b => a.1 ≠ b.1
theorem drain_Nk : ∀ {n : Nat} {T : Tv}, Nk T → Nk (Tv.drain n T)
  | 0, _, h => h
  | n + 1, T, h => by
    unfold Tv.drain
    cases q : T.ahead.lookup T.wanted with
    | none => exact h
    | some d =>
      simp only
      split
      · exact h
      · refine drain_Nk ?_
        have hf : (T.ahead.filter fun p => decide (p.1 ≠ T.wanted)).Pairwise fun p q => p.1 ≠ q.1 := List.Pairwise.sublist List.filter_sublist h
        unfold Nk Tv.come
        split
        · exact .nil
        · split <;> exact hf
theorem take_Nk {T : Tv} {number : Int} {ds : List D} (h : Nk T) : Nk (T.take number ds) := by
  unfold Tv.take
  split
  · exact h
  · have key : ∀ i, Nk (T.puts T.wanted (T.room - T.unread.length) number ds i) := by
      intro i
      induction i with
      | zero => exact h
      | succ i ih =>
        unfold Tv.puts
        cases ds[i]? with
        | none => exact ih
        | some d =>
          simp only
          unfold Tv.put1
          split
          · rename_i hc
            refine List.pairwise_append.mpr ⟨ih, List.pairwise_singleton _ _, fun p hp q hq => ?_⟩
            rw [List.mem_singleton] at hq
            subst hq
            intro e
            have e' : p.1 = (number + (i : Int)) % 4294967296 := e
            have hl := hc.2
            rw [← e'] at hl
            exact look_ne hl hp
          · exact ih
    exact drain_Nk (key _)
section
variable {f fw most R : Int} {S : List D} {p q c : Nat} {got : List D} {T : Tv} {G : Gv}
theorem TJ.al (h : TJ f S R q c got T) (hS : St S) (hk : Nk T) (hR : R ≤ 128) : T.ahead.length ≤ 128 := by
  have hqs := h.qs
  have hl := hS.len
  have h1 : (T.ahead.map fun p => (p.1 - T.wanted) % 4294967296).Nodup := by
    rw [List.Nodup, List.pairwise_map]
    refine List.Pairwise.imp_of_mem (fun {a b} ha hb hne => ?_) hk
    obtain ⟨i, i1, i2, i3, i4, _⟩ := h.ah a ha
    obtain ⟨j, j1, j2, j3, j4, _⟩ := h.ah b hb
    intro e
    rw [i4, j4] at hne
    rw [i4, j4, h.w, nm_sub i1 (by omega), nm_sub j1 (by omega)] at e
    exact hne (by rw [show i = j by omega])
  have h2 := pigeon 128 _ h1 fun x hx => by
    obtain ⟨a, ha, rfl⟩ := List.mem_map.mp hx
    obtain ⟨i, i1, i2, i3, i4, _⟩ := h.ah a ha
    rw [i4, h.w, nm_sub i1 (by omega)]
    omega
  rwa [List.length_map] at h2
theorem TJ.ok (h : TJ f S R q c got T) (hS : St S) (hk : Nk T) (hR : R ≤ 128) : T.Ok :=
  ⟨by rw [h.w]; exact nm_rg, fun a ha => by obtain ⟨i, _, _, _, _, i5⟩ := h.ah a ha; exact hS.itm _ (List.mem_of_getElem? i5), by have := h.ur; have := h.al hS hk hR; omega⟩
theorem GI.ok (h : GI f S p q G) (gp : GP fw most G) : G.Ok :=
  ⟨by rw [h.b]; exact nm_rg, by have := gp.m; have := gp.m1; have := gp.m2; omega, by have := gp.f; have := gp.f1; omega, by have := h.s; have := h.pq; omega⟩
end
def mkS (w : List D) (e : Int) : List D := dS "o" :: w ++ (if e = 1 then [dS "e"] else [])
def Ints (w : List D) : Prop := ∀ d ∈ w, ∃ i, d = .int i
section
variable {w : List D} {e : Int}
theorem isE_o : isE (dS "o") = false := by simp [isE, dS, fS_inj]
theorem isE_e : isE (dS "e") = true := by simp [isE, dS]
theorem isOO_o : isOO (dS "o") = true := by simp [isOO, dS]
theorem isI_o : isI (dS "o") = false := by unfold isI; rw [isOO_o]; simp
theorem isI_e : isI (dS "e") = false := by unfold isI; rw [isE_e]; simp
theorem filt_int (h : Ints w) : w.filter isI = w := List.filter_eq_self.mpr fun d hd => by obtain ⟨i, rfl⟩ := h d hd; rfl
theorem any_int (h : Ints w) : w.any isE = false := by
  rw [List.any_eq_false]
  intro d hd
  obtain ⟨i, rfl⟩ := h d hd
  simp [isE]
theorem Ints.take {n : Nat} (h : Ints w) : Ints (w.take n) := fun d hd => h d (List.mem_of_mem_take hd)
theorem mkS_len : (mkS w e).length = 1 + w.length + (if e = 1 then 1 else 0) := by
  unfold mkS
  split <;> simp <;> omega
theorem filt_S (h : Ints w) : (mkS w e).filter isI = w := by
  unfold mkS
  rw [List.cons_append, List.filter_cons, isI_o, List.filter_append, filt_int h]
  by_cases he : e = 1
  · simp [he, isI_e]
  · simp [he]
theorem St_of (h : Ints w) (hl : w.length ≤ 90000) : St (mkS w e) := by
  refine ⟨by rw [mkS_len]; split <;> omega, fun d hd => ?_, fun i d hi hE => ?_⟩
  · unfold mkS at hd
    rcases List.mem_append.mp hd with hd | hd
    · rcases List.mem_cons.mp hd with rfl | hd
      · exact .inr (.inl rfl)
      · exact .inl (h d hd)
    · split at hd
      · rw [List.mem_singleton] at hd; exact .inr (.inr hd)
      · cases hd
  · rw [mkS_len]
    unfold mkS at hi
    cases i with
    | zero =>
      simp at hi
      subst hi
      rw [isE_o] at hE; cases hE
    | succ j =>
      rw [List.cons_append, List.getElem?_cons_succ] at hi
      by_cases c : j < w.length
      · rw [List.getElem?_append_left c] at hi
        obtain ⟨x, rfl⟩ := h d (List.mem_of_getElem? hi)
        simp [isE] at hE
      · rw [List.getElem?_append_right (by omega)] at hi
        split at hi
        · rename_i he
          have := lt_of_get hi
          rw [if_pos he]
          simp at this
          omega
        · simp at hi
theorem count_S (h : Ints w) {c : Nat} (hc : c ≤ (mkS w e).length) : (c : Int) = max 0 (min (c : Int) 1) + (((mkS w e).take c).filter isI).length + (if ((mkS w e).take c).any isE then 1 else 0) := by
  cases c with
  | zero => simp; decide
  | succ n =>
    have e0 : (mkS w e).take (n + 1) = dS "o" :: (w.take n ++ (if e = 1 then [dS "e"] else []).take (n - w.length)) := by
      unfold mkS
      rw [List.cons_append, List.take_succ_cons, List.take_append]
    rw [mkS_len] at hc
    rw [e0, List.filter_cons, isI_o, List.any_cons, isE_o, List.filter_append, List.any_append, filt_int h.take, any_int h.take]
    simp only [Bool.false_eq_true, if_false, Bool.false_or, List.length_append, List.length_take]
    by_cases he : e = 1
    · simp only [he, if_true] at hc ⊢
      by_cases c2 : n ≤ w.length
      · rw [show n - w.length = 0 by omega]
        simp; omega
      · rw [show n - w.length = 1 by omega]
        simp [isI_e, isE_e]; omega
    · simp only [he, if_false] at hc ⊢
      simp; omega
end
/-- a world -/
structure Wd where
  G : Gv
  T : Tv
  wait : Int
  room : Int
  first : Int
  tick : Int
  there : List (Int × List D)
  back : List (Int × Int)
  written : List D
  got : List D
  ended : Int
structure WI (W : Wd) (S : List D) (most : Int) (p q c m : Nat) : Prop where
  eS : S = mkS W.written W.ended
  wr : Ints W.written
  en : W.ended = 0 ∧ W.G.fin = false ∨ W.ended = 1 ∧ W.G.fin = true
  gi : GI W.first S p q W.G
  gp : GP W.wait most W.G
  ti : TI W.first S W.room q c W.got W.T
  pc : p ≤ c
  th : ∀ P ∈ W.there, PosOk W.first S 0 q P ∧ P.2.length ≤ 200
  bk : ∀ P ∈ W.back, ∃ c' : Nat, c' ≤ c ∧ P.1 = nm W.first c' ∧ 0 ≤ P.2
  ko : KO W.G.kept W.G.fin
  nw : W.G.now ≤ W.tick
  si : ∀ u, W.G.since = some u → u ≤ W.tick
  nk : Nk W.T
  wl : W.written.length ≤ 40 * m
  tl : W.there.length ≤ 600 * m
  bl : W.back.length ≤ m
  ff : 0 ≤ W.first ∧ W.first < 4294967296
  wt : W.wait ≤ 4
  rm : 1 ≤ W.room ∧ W.room ≤ 128
theorem PosOk.mono {f : Int} {S X : List D} {p p' q q' : Nat} {P : Int × List D} (h : PosOk f S p q P) (hp : p' ≤ p) (hq : q ≤ q') : PosOk f (S ++ X) p' q' P := by
  obtain ⟨a, a1, a2, a3⟩ := h
  refine ⟨a, a1, by omega, fun s d hd => ?_⟩
  obtain ⟨x, y⟩ := a3 s d hd
  exact ⟨by rw [List.getElem?_append_left (lt_of_get x)]; exact x, by omega⟩
theorem PosOk.mono0 {f : Int} {S : List D} {p p' q q' : Nat} {P : Int × List D} (h : PosOk f S p q P) (hp : p' ≤ p) (hq : q ≤ q') : PosOk f S p' q' P := by
  have := h.mono (X := []) hp hq
  rwa [List.append_nil] at this
section
variable {W : Wd} {S : List D} {most : Int} {p q c m : Nat}
theorem WI.st (h : WI W S most p q c m) (hm : m ≤ 63) : St S := by rw [h.eS]; exact St_of h.wr (by have := h.wl; omega)
theorem WI.gok (h : WI W S most p q c m) : W.G.Ok := h.gi.ok h.gp
theorem WI.tok (h : WI W S most p q c m) (hm : m ≤ 63) : W.T.Ok := h.ti.ok (h.st hm) h.nk h.rm.2
theorem WI.ki (h : WI W S most p q c m) (hm : m ≤ 63) : ∀ d ∈ W.G.kept, Itm d := fun d hd => (h.st hm).itm d (by rw [h.gi.k] at hd; exact List.mem_of_mem_drop hd)
theorem WI.up (h : WI W S most p q c m) : WI W S most p q c (m + 1) := { h with wl := by have := h.wl; omega, tl := by have := h.tl; omega, bl := by have := h.bl; omega }
theorem due_since {G : Gv} {t : Int} (si : ∀ u, G.since = some u → u ≤ t) : ∀ u, (G.dueG t).since = some u → u ≤ t := fun u hu => by
  rcases count_since (X := G.due3 t) hu with e | e
  · omega
  · have e2 : (G.due2 t).since = some u := e
    unfold Gv.due2 Gv.again at e2
    split at e2
    · cases e2; exact Int.le_refl _
    · rcases count_since e2 with e3 | e3
      · omega
      · exact si u e3
theorem WI.due (h : WI W S most p q c m) (hm : m ≤ 63) : ∃ q', WI { W with G := W.G.dueG W.tick, there := W.there ++ W.G.dueP W.tick } S most p q' c (m + 1) := by
  obtain ⟨q', h1, h2, h3, h4, h5, _⟩ := due_GI (t := W.tick) h.gi h.gp (h.st hm).len
  obtain ⟨k1, k2, k3⟩ := due_kept (G := W.G) (t := W.tick)
  obtain ⟨d1, d2⟩ := dueP_ok (t := W.tick) h.gok (h.ki hm) h.ko.len
  have ht := h.ti.more (X := []) h1 (by rw [List.append_nil]; exact h2.qs)
  rw [List.append_nil] at ht
  exact ⟨q', { h.up with
    en := by rw [show ({ W with G := W.G.dueG W.tick, there := W.there ++ W.G.dueP W.tick } : Wd).G.fin = W.G.fin from k2]; exact h.en
    gi := h2
    gp := h3
    ti := ht
    th := fun P hP => by
      rcases List.mem_append.mp hP with hP | hP
      · obtain ⟨x, y⟩ := h.th P hP
        exact ⟨x.mono0 (Nat.le_refl _) h1, y⟩
      · exact ⟨(h4 P hP).mono0 (Nat.zero_le _) (Nat.le_refl _), (d2 P hP).2.2.2⟩
    ko := by show KO (W.G.dueG W.tick).kept (W.G.dueG W.tick).fin; rw [k1, k2]; exact h.ko
    nw := by show (W.G.dueG W.tick).now ≤ W.tick; rw [h5]; exact Int.le_refl _
    si := due_since h.si
    tl := by show (W.there ++ W.G.dueP W.tick).length ≤ _; have := h.tl; rw [List.length_append]; omega }⟩
theorem WI.brought {P : Int × List D} {L : List (Int × List D)} (h : WI W S most p q c m) (hm : m ≤ 63) (hP : P ∈ W.there) (hL : ∀ Q ∈ L, Q ∈ W.there) (hl : L.length ≤ W.there.length) :
    ∃ c', WI { W with T := W.T.take P.1 P.2, there := L, back := W.back ++ [((W.T.take P.1 P.2).wanted, (W.T.take P.1 P.2).room - (W.T.take P.1 P.2).unread.length)] } S most p q c' (m + 1) := by
  obtain ⟨⟨a, a1, a2, a3⟩, _⟩ := h.th P hP
  obtain ⟨c', h1, h2, _⟩ := take_TI (h.st hm) h.rm.2 h.ti a1 a3
  refine ⟨c', { h.up with
    ti := h2
    pc := Nat.le_trans h.pc h1
    th := fun Q hQ => h.th Q (hL Q hQ)
    bk := fun Q hQ => by
      rcases List.mem_append.mp hQ with hQ | hQ
      · obtain ⟨x, x1, x2⟩ := h.bk Q hQ
        exact ⟨x, Nat.le_trans x1 h1, x2⟩
      · rw [List.mem_singleton] at hQ
        subst hQ
        exact ⟨c', Nat.le_refl _, h2.w, by have := h2.ur; have := h2.r; show 0 ≤ (W.T.take P.1 P.2).room - ((W.T.take P.1 P.2).unread.length : Int); omega⟩
    nk := take_Nk h.nk
    tl := by show L.length ≤ _; have := h.tl; omega
    bl := by show (W.back ++ [_]).length ≤ _; have := h.bl; rw [List.length_append, List.length_singleton]; omega }⟩
theorem WI.roads {L : List (Int × List D)} {K : List (Int × Int)} (h : WI W S most p q c m) (hL : ∀ Q ∈ L, Q ∈ W.there) (hl : L.length ≤ W.there.length) (hK : ∀ Q ∈ K, Q ∈ W.back) (kl : K.length ≤ W.back.length) : WI { W with there := L, back := K } S most p q c m :=
  { h with th := fun Q hQ => h.th Q (hL Q hQ), bk := fun Q hQ => h.bk Q (hK Q hQ), tl := by show L.length ≤ _; have := h.tl; omega, bl := by show K.length ≤ _; have := h.bl; omega }
theorem WI.heard {P : Int × Int} {K : List (Int × Int)} (h : WI W S most p q c m) (hm : m ≤ 63) (hP : P ∈ W.back) (hK : ∀ Q ∈ K, Q ∈ W.back) (kl : K.length ≤ W.back.length) :
    ∃ p', WI { W with G := W.G.heardG P.1 P.2 W.tick, back := K } S most p' q c m := by
  obtain ⟨c', c1, c2, c3⟩ := h.bk P hP
  have hl := (h.st hm).len
  obtain ⟨⟨n, k1⟩, k2, k3⟩ := heard_kept (G := W.G) (a := P.1) (room := P.2) (t := W.tick)
  have h0 := h.roads (L := W.there) (fun _ x => x) (Nat.le_refl _) hK kl
  have hko : KO (W.G.heardG P.1 P.2 W.tick).kept (W.G.heardG P.1 P.2 W.tick).fin := by rw [k1, k2]; exact h.ko.drop
  have hen : W.ended = 0 ∧ (W.G.heardG P.1 P.2 W.tick).fin = false ∨ W.ended = 1 ∧ (W.G.heardG P.1 P.2 W.tick).fin = true := by rw [k2]; exact h.en
  have hnw : (W.G.heardG P.1 P.2 W.tick).now ≤ W.tick := by rw [k3]; exact Int.le_refl _
  by_cases z : p ≤ c'
  · obtain ⟨g1, g2, g3, g4, _⟩ := heard_GI (t := W.tick) (fr := P.2) h.gi h.gp hl z (Nat.le_trans c1 h.ti.cq) c3 h.si
    rw [← c2] at g1 g2 g3 g4
    exact ⟨c', { h0 with en := hen, gi := g1, gp := g2, pc := c1, ko := hko, nw := hnw, si := g4 }⟩
  · have e := heard_old (t := W.tick) (fr := P.2) h.gi hl (show c' < p by omega)
    rw [← c2] at e
    refine ⟨p, { h0 with en := hen, gi := ?_, gp := ?_, ko := hko, nw := hnw, si := ?_ }⟩
    · show GI W.first S p q (W.G.heardG P.1 P.2 W.tick)
      rw [e]; exact h.gi.now
    · show GP W.wait most (W.G.heardG P.1 P.2 W.tick)
      rw [e]; exact h.gp.now
    · show ∀ u, (W.G.heardG P.1 P.2 W.tick).since = some u → u ≤ W.tick
      rw [e]; exact h.si
theorem WI.read {n : Nat} (h : WI W S most p q c m) : WI { W with T := { W.T with unread := W.T.unread.drop n }, got := W.got ++ W.T.unread.take n } S most p q c m :=
  { h with ti := h.ti.read, nk := h.nk }
theorem WI.tick {n : Int} (h : WI W S most p q c m) (hn : 0 ≤ n) : WI { W with tick := W.tick + n } S most p q c m :=
  { h with nw := by show W.G.now ≤ W.tick + n; have := h.nw; omega, si := fun u hu => by show u ≤ W.tick + n; have := h.si u hu; omega }
theorem GI.more {f : Int} {X : List D} {G : Gv} (h : GI f S p q G) : GI f (S ++ X) p q { G with kept := G.kept ++ X } :=
  ⟨h.b, by have := h.pq; have := h.qs; show G.kept ++ X = _; rw [h.k, List.drop_append_of_le_length (by omega)], h.s, h.ps, h.pq, by have := h.qs; rw [List.length_append]; omega⟩
theorem WI.write {ds : List Int} (h : WI W S most p q c m) (h0 : W.ended = 0) (hd : ds.length ≤ 40) :
    WI { W with G := W.G.write ds, written := W.written ++ (ds.map D.int).take (W.G.writeN ds.length).toNat } (S ++ (ds.map D.int).take (W.G.writeN ds.length).toNat) most p q c (m + 1) := by
  have hf : W.G.fin = false := h.en.elim (fun e => e.2) (fun e => by have := e.1; omega)
  obtain ⟨X, hX⟩ : ∃ X, X = (ds.map D.int).take (W.G.writeN ds.length).toNat := ⟨_, rfl⟩
  have hI : Ints X := fun d hd => by rw [hX] at hd; obtain ⟨i, _, e⟩ := List.mem_map.mp (List.mem_of_mem_take hd); exact ⟨i, e.symm⟩
  have hXl : X.length ≤ 40 := by rw [hX, List.length_take, List.length_map]; omega
  have eG : W.G.write ds = { W.G with kept := W.G.kept ++ X } := by unfold Gv.write; rw [hX]
  have hko : KO (W.G.kept ++ X) false := by
    have h1 := h.ko
    rw [hf] at h1
    have h2 := h1.n
    simp only [Bool.false_eq_true, if_false, Nat.add_zero] at h2
    rw [hX]
    refine h1.write ?_
    unfold Gv.writeN; omega
  rw [← hX, eG]
  exact { h.up with
    eS := by show S ++ X = mkS (W.written ++ X) W.ended; rw [h.eS, h0]; simp [mkS]
    wr := fun d hd => (List.mem_append.mp hd).elim (h.wr d) (hI d)
    gi := h.gi.more
    gp := ⟨h.gp.f, h.gp.f1, h.gp.m, h.gp.m1, h.gp.m2, h.gp.w1, h.gp.w2, h.gp.pc, h.gp.rc⟩
    ti := h.ti.more (Nat.le_refl _) (by have := h.gi.qs; rw [List.length_append]; omega)
    th := fun P hP => by obtain ⟨x, y⟩ := h.th P hP; exact ⟨x.mono (Nat.le_refl _) (Nat.le_refl _), y⟩
    ko := by show KO (W.G.kept ++ X) W.G.fin; rw [hf]; exact hko
    wl := by show (W.written ++ X).length ≤ _; have := h.wl; rw [List.length_append]; omega }
theorem WI.finish (h : WI W S most p q c m) : ∃ S', WI { W with G := W.G.finish, ended := 1 } S' most p q c m := by
  rcases h.en with e | e
  · have hko : KO (W.G.kept ++ [dS "e"]) true := by
      have h1 := h.ko
      rw [e.2] at h1
      exact h1.finish
    have eG : W.G.finish = { W.G with fin := true, kept := W.G.kept ++ [dS "e"] } := by unfold Gv.finish; rw [e.2]; rfl
    rw [eG]
    exact ⟨S ++ [dS "e"], { h with
      eS := by show S ++ [dS "e"] = mkS W.written 1; rw [h.eS, e.1]; simp [mkS]
      en := .inr ⟨rfl, rfl⟩
      gi := ⟨h.gi.b, (h.gi.more (X := [dS "e"])).k, h.gi.s, h.gi.ps, h.gi.pq, (h.gi.more (X := [dS "e"])).qs⟩
      gp := ⟨h.gp.f, h.gp.f1, h.gp.m, h.gp.m1, h.gp.m2, h.gp.w1, h.gp.w2, h.gp.pc, h.gp.rc⟩
      ti := h.ti.more (Nat.le_refl _) (by have := h.gi.qs; rw [List.length_append]; omega)
      th := fun P hP => by obtain ⟨x, y⟩ := h.th P hP; exact ⟨x.mono (Nat.le_refl _) (Nat.le_refl _), y⟩
      ko := hko }⟩
  · have eW : ({ W with G := W.G.finish, ended := 1 } : Wd) = W := by
      have : W.G.finish = W.G := by
        unfold Gv.finish
        rw [e.2]
        cases hG : W.G
        simp_all
      rw [this]
      cases W
      simp_all
    exact ⟨S, by rw [eW]; exact h⟩
end

/-! lists of different lengths -/
theorem eqvAll_len : ∀ {xs ys : List PyData}, xs.length ≠ ys.length → PyData.eqvAll xs ys = false
  | [], [], h => absurd rfl h
  | [], _ :: _, _ => by simp [PyData.eqvAll]
  | _ :: _, [], _ => by simp [PyData.eqvAll]
  | x :: xs, y :: ys, h => by
    unfold PyData.eqvAll
    rw [eqvAll_len (xs := xs) (ys := ys) (by simpa using h), Bool.and_false]
theorem allSome_len {α : Type} : ∀ {l : List (Option α)} {ps : List α}, allSome l = some ps → ps.length = l.length
  | [], ps, h => by cases h; rfl
  | some a :: r, ps, h => by
    unfold allSome at h
    obtain ⟨qs, hq, rfl⟩ := Option.map_eq_some_iff.mp h
    simp [allSome_len hq]
  | none :: _, _, h => by cases h
theorem eqA_len {A : Hs} {i j : Nat} {l k : List D} (h : A[i]? = some (.lst l)) (g : A[j]? = some (.lst k)) (hn : l.length ≠ k.length) : eqA A (.ref i) (.ref j) = some false := by
  unfold eqA
  rw [py_lst h, py_lst g]
  cases q1 : allSome (l.map (pyA A 39)) with
  | none => unfold unL; simp [h, g, hn]
  | some ps =>
    cases q2 : allSome (k.map (pyA A 39)) with
    | none => unfold unL; simp [h, g, hn]
    | some qs =>
      have e1 := allSome_len q1
      have e2 := allSome_len q2
      rw [List.length_map] at e1 e2
      simp [PyData.eqv, eqvAll_len (xs := ps) (ys := qs) (by omega)]
theorem oNe_len {A : Hs} {i j : Nat} {l k : List D} (h : A[i]? = some (.lst l)) (g : A[j]? = some (.lst k)) (hn : l.length ≠ k.length) : oNe (.ref i) (.ref j) A = .ok (.bl true) A := neA_of (eqA_len h g hn)
theorem oEq_len {A : Hs} {i j : Nat} {l k : List D} (h : A[i]? = some (.lst l)) (g : A[j]? = some (.lst k)) (hn : l.length ≠ k.length) : oEq (.ref i) (.ref j) A = .ok (.bl false) A := eqA_of (eqA_len h g hn)

/-! the world's dict -/
def bkD (p : Int × Int) : D := .tup [.int p.1, .int p.2]
def Wd.kv (W : Wd) (g t x y : Nat) : List (D × D) := [(dS "giver", .ref g), (dS "taker", .ref t), (dS "wait", .int W.wait), (dS "room", .int W.room), (dS "first", .int W.first), (dS "tick", .int W.tick), (dS "there", .ref x), (dS "back", .ref y), (dS "written", .tup W.written), (dS "got", .tup W.got), (dS "ended", .int W.ended)]
section
variable {W : Wd} {g t x y : Nat}
theorem kg_giver : kget (W.kv g t x y) (dS "giver") = some (.ref g) := by simp_arith [Wd.kv]
theorem kg_taker : kget (W.kv g t x y) (dS "taker") = some (.ref t) := by simp_arith [Wd.kv]
theorem kg_wait : kget (W.kv g t x y) (dS "wait") = some (.int W.wait) := by simp_arith [Wd.kv]
theorem kg_room : kget (W.kv g t x y) (dS "room") = some (.int W.room) := by simp_arith [Wd.kv]
theorem kg_first : kget (W.kv g t x y) (dS "first") = some (.int W.first) := by simp_arith [Wd.kv]
theorem kg_tick : kget (W.kv g t x y) (dS "tick") = some (.int W.tick) := by simp_arith [Wd.kv]
theorem kg_there : kget (W.kv g t x y) (dS "there") = some (.ref x) := by simp_arith [Wd.kv]
theorem kg_back : kget (W.kv g t x y) (dS "back") = some (.ref y) := by simp_arith [Wd.kv]
theorem kg_written : kget (W.kv g t x y) (dS "written") = some (.tup W.written) := by simp_arith [Wd.kv]
theorem kg_got : kget (W.kv g t x y) (dS "got") = some (.tup W.got) := by simp_arith [Wd.kv]
theorem kg_ended : kget (W.kv g t x y) (dS "ended") = some (.int W.ended) := by simp_arith [Wd.kv]
theorem kp_tick {n : Int} : kput (W.kv g t x y) (dS "tick") (.int n) = Wd.kv { W with tick := n } g t x y := by simp_arith [Wd.kv]
theorem kp_written {n : List D} : kput (W.kv g t x y) (dS "written") (.tup n) = Wd.kv { W with written := n } g t x y := by simp_arith [Wd.kv]
theorem kp_got {n : List D} : kput (W.kv g t x y) (dS "got") (.tup n) = Wd.kv { W with got := n } g t x y := by simp_arith [Wd.kv]
theorem kp_ended {n : Int} : kput (W.kv g t x y) (dS "ended") (.int n) = Wd.kv { W with ended := n } g t x y := by simp_arith [Wd.kv]
theorem kv_len : (W.kv g t x y).length = 11 := rfl
end
structure IsW (A : Hs) (w g k t h x y : Nat) (W : Wd) : Prop where
  iw : A[w]? = some (.dic false false (W.kv g t x y))
  ig : IsG A g k W.G
  it : IsT A t h W.T
  ix : A[x]? = some (.lst (W.there.map prD))
  iy : A[y]? = some (.lst (W.back.map bkD))
  kx : k ≠ x
  ky : k ≠ y
  xy : x ≠ y
  wh : w ≠ h
theorem ne_kind {A : Hs} {i j : Nat} {u v : O} (h1 : A[i]? = some u) (h2 : A[j]? = some v) (h : u ≠ v) : i ≠ j := fun e => h (by rw [e, h2] at h1; exact (Option.some.inj h1).symm)
section
variable {A A1 : Hs} {w g k t h x y : Nat} {W W1 : Wd}
theorem IsW.frame {s : List Nat} (i : IsW A w g k t h x y W) (F : Fr s A A1) (d : ∀ j ∈ [w, g, k, t, h, x, y], j ∉ s) : IsW A1 w g k t h x y W := by
  simp only [List.mem_cons, List.not_mem_nil, or_false, forall_eq_or_imp, forall_eq] at d
  obtain ⟨d1, d2, d3, d4, d5, d6, d7⟩ := d
  exact ⟨F.get i.iw d1, i.ig.frame F d2 d3, i.it.frame F d4 d5, F.get i.ix d6, F.get i.iy d7, i.kx, i.ky, i.xy, i.wh⟩
theorem IsW.up0 (i : IsW A w g k t h x y W) (F : Fr [] A A1) : IsW A1 w g k t h x y W := i.frame F (by simp)
theorem IsW.lt (i : IsW A w g k t h x y W) : w < A.length ∧ g < A.length ∧ k < A.length ∧ t < A.length ∧ h < A.length ∧ x < A.length ∧ y < A.length :=
  ⟨lt_of_get i.iw, lt_of_get i.ig.o, lt_of_get i.ig.l, lt_of_get i.it.o, lt_of_get i.it.l, lt_of_get i.ix, lt_of_get i.iy⟩
theorem IsW.upG {G1 : Gv} {k1 : Nat} (i : IsW A w g k t h x y W) (F : Fr [g, k] A A1) (hg : IsG A1 g k1 G1) (hk : k1 = k ∨ A.length ≤ k1) : IsW A1 w g k1 t h x y { W with G := G1 } := by
  have hx := lt_of_get i.ix
  have hy := lt_of_get i.iy
  have a1 := ne_kind i.iw i.ig.o (by simp)
  have a2 := ne_kind i.iw i.ig.l (by simp)
  have b1 := ne_kind i.it.o i.ig.o (by simp)
  have b2 := ne_kind i.it.o i.ig.l (by simp)
  have c1 := ne_kind i.it.l i.ig.o (by simp)
  have c2 := ne_kind i.it.l i.ig.l (by simp)
  have d1 := ne_kind i.ix i.ig.o (by simp)
  have e1 := ne_kind i.iy i.ig.o (by simp)
  refine ⟨F.get i.iw (by simp [a1, a2]), hg, i.it.frame F (by simp [b1, b2]) (by simp [c1, c2]), F.get i.ix (by simp [d1, Ne.symm i.kx]), F.get i.iy (by simp [e1, Ne.symm i.ky]), ?_, ?_, i.xy, i.wh⟩
  · rcases hk with rfl | hk
    · exact i.kx
    · clear a1 a2 b1 b2 c1 c2 d1 e1; omega
  · rcases hk with rfl | hk
    · exact i.ky
    · clear a1 a2 b1 b2 c1 c2 d1 e1; omega
theorem IsW.upT {T1 : Tv} {h1 : Nat} (i : IsW A w g k t h x y W) (F : Fr [t, h] A A1) (ht : IsT A1 t h1 T1) (hh : h1 = h ∨ A.length ≤ h1) : IsW A1 w g k t h1 x y { W with T := T1 } := by
  have hw := lt_of_get i.iw
  have a1 := ne_kind i.iw i.it.o (by simp)
  have b1 := ne_kind i.ig.o i.it.o (by simp)
  have b2 := ne_kind i.ig.o i.it.l (by simp)
  have c1 := ne_kind i.ig.l i.it.o (by simp)
  have c2 := ne_kind i.ig.l i.it.l (by simp)
  have d1 := ne_kind i.ix i.it.o (by simp)
  have d2 := ne_kind i.ix i.it.l (by simp)
  have e1 := ne_kind i.iy i.it.o (by simp)
  have e2 := ne_kind i.iy i.it.l (by simp)
  refine ⟨F.get i.iw (by simp [a1, i.wh]), i.ig.frame F (by simp [b1, b2]) (by simp [c1, c2]), ht, F.get i.ix (by simp [d1, d2]), F.get i.iy (by simp [e1, e2]), i.kx, i.ky, i.xy, ?_⟩
  rcases hh with rfl | hh
  · exact i.wh
  · clear a1 b1 b2 c1 c2 d1 d2 e1 e2; omega
/-- its own dict, its roads -/
theorem IsW.upD (i : IsW A w g k t h x y W) (F : Fr [w] A A1) (hw : A1[w]? = some (.dic false false (W1.kv g t x y))) (eG : W1.G = W.G) (eT : W1.T = W.T) (eX : W1.there = W.there) (eY : W1.back = W.back) : IsW A1 w g k t h x y W1 := by
  have b1 := ne_kind i.ig.o i.iw (by simp)
  have b2 := ne_kind i.ig.l i.iw (by simp)
  have c1 := ne_kind i.it.o i.iw (by simp)
  have d1 := ne_kind i.ix i.iw (by simp)
  have e1 := ne_kind i.iy i.iw (by simp)
  exact ⟨hw, by rw [eG]; exact i.ig.frame F (by simp [b1]) (by simp [b2]), by rw [eT]; exact i.it.frame F (by simp [c1]) (by simp [Ne.symm i.wh]), by rw [eX]; exact F.get i.ix (by simp [d1]), by rw [eY]; exact F.get i.iy (by simp [e1]), i.kx, i.ky, i.xy, i.wh⟩
theorem IsW.upX {L : List (Int × List D)} (i : IsW A w g k t h x y W) (F : Fr [x] A A1) (hx : A1[x]? = some (.lst (L.map prD))) : IsW A1 w g k t h x y { W with there := L } := by
  have a1 := ne_kind i.iw i.ix (by simp)
  have b1 := ne_kind i.ig.o i.ix (by simp)
  have c1 := ne_kind i.it.o i.ix (by simp)
  have c2 := ne_kind i.it.l i.ix (by simp)
  exact ⟨F.get i.iw (by simp [a1]), i.ig.frame F (by simp [b1]) (by simp [i.kx]), i.it.frame F (by simp [c1]) (by simp [c2]), hx, F.get i.iy (by simp [Ne.symm i.xy]), i.kx, i.ky, i.xy, i.wh⟩
theorem IsW.upY {L : List (Int × Int)} (i : IsW A w g k t h x y W) (F : Fr [y] A A1) (hy : A1[y]? = some (.lst (L.map bkD))) : IsW A1 w g k t h x y { W with back := L } := by
  have a1 := ne_kind i.iw i.iy (by simp)
  have b1 := ne_kind i.ig.o i.iy (by simp)
  have c1 := ne_kind i.it.o i.iy (by simp)
  have c2 := ne_kind i.it.l i.iy (by simp)
  exact ⟨F.get i.iw (by simp [a1]), i.ig.frame F (by simp [b1]) (by simp [i.ky]), i.it.frame F (by simp [c1]) (by simp [c2]), F.get i.ix (by simp [i.xy]), hy, i.kx, i.ky, i.xy, i.wh⟩
end
theorem Drw.frame {A A1 : Hs} {i : Nat} {l : List Nat} (h : Drw A i) (f : Fr l A A1) (hi : i ∉ l) : Drw A1 i := by
  obtain ⟨a, b, c, d, h⟩ := h
  exact ⟨a, b, c, d, f.get h hi⟩
theorem Drw.lt {A : Hs} {i : Nat} (h : Drw A i) : i < A.length := by
  obtain ⟨a, b, c, d, h⟩ := h
  exact lt_of_get h
theorem popAt_l {A : Hs} {i : Nat} {l : List D} {j : Int} {d : D} (h : A[i]? = some (.lst l)) (hj : 0 ≤ j) (hd : l[j.toNat]? = some d) (hl : l.length < 1000000000) : oPopAt (.ref i) [.int j] A = .ok d (A.set i (.lst (l.eraseIdx j.toNat))) := by
  have hlt := lt_of_get hd
  have e : lstAt A (.ref i) = some (i, l) := by rw [z3s, h]; rfl
  have e2 : seqIndex? j l.length = some j.toNat := by
    have h0 : (if j < 0 then j + (l.length : Int) else j) = j := if_neg (by omega)
    unfold seqIndex?
    simp only [h0]
    rw [if_pos (by simp; omega)]
  unfold oPopAt
  rw [e]
  simp only [e2, hd]
  rw [if_pos (by omega)]
theorem eraseIdx_map' {α : Type} (f : α → D) : ∀ (L : List α) (i : Nat), (L.map f).eraseIdx i = (L.eraseIdx i).map f
  | [], _ => rfl
  | a :: L, 0 => rfl
  | a :: L, i + 1 => by rw [List.map_cons, List.eraseIdx_cons_succ, List.eraseIdx_cons_succ, List.map_cons, eraseIdx_map' f L i]
/-- any thing on a road, that is kept there or not -/
theorem thing_ok {α : Type} (f : α → D) {A : Hs} {dr r : Nat} {L : List α} (h : Drw A dr) (hr : A[r]? = some (.lst (L.map f))) (hne : dr ≠ r) (hl : L.length < 1000000) :
    Rk (F_l_thing [.ref dr, .ref r] A) fun v A1 => Drw A1 dr ∧ Fr [dr, r] A A1 ∧ ∃ L' : List α, A1[r]? = some (.lst (L'.map f)) ∧ (∀ a ∈ L', a ∈ L) ∧ L'.length ≤ L.length ∧ (v = .non ∧ L' = L ∨ ∃ a ∈ L, v = f a) := by
  have hrl := lt_of_get hr
  by_cases q : L = []
  · subst q
    have e0 := oEq_lst (A := A ++ [O.lst []]) (i := r) (j := A.length) (l := []) (get_push hr) z9g rfl
    unfold F_l_thing
    simp_arith [e0]
    exact ⟨h.frame (l := []) .push (by simp), .push, [], by simp_arith [hr], by simp, Nat.le_refl _, .inl rfl⟩
  · have hp := List.length_pos_iff.mpr q
    have e0 := oEq_len (A := A ++ [O.lst []]) (i := r) (j := A.length) (l := L.map f) (k := []) (get_push hr) z9g (by rw [List.length_map]; simp; exact q)
    have h1 : Drw (A ++ [O.lst []]) dr := h.frame (l := []) .push (by simp)
    obtain ⟨v, A1, v0, v1, e1, d1, f1⟩ := next_ok (n := L.length) h1 (by omega) (by omega)
    obtain ⟨u, A2, u0, u1, e2, d2, f2⟩ := next_ok (n := 3) d1 (by omega) (by omega)
    have hr1 := f1.get (get_push (u := O.lst []) hr) (by simp; exact Ne.symm hne)
    have hr2 := f2.get hr1 (by simp; exact Ne.symm hne)
    obtain ⟨a, ha⟩ : ∃ a, L[v.toNat]? = some a := ⟨_, List.getElem?_eq_getElem (by omega)⟩
    have hd : (L.map f)[v.toNat]? = some (f a) := by rw [List.getElem?_map, ha]; rfl
    have ep := popAt_l hr2 v0 hd (by rw [List.length_map]; omega)
    have F2 : Fr [dr, r] A A2 := (Fr.push.trans (f1.mono (by simp))).trans (f2.mono (by simp))
    have hn2 := lt_of_get hr2
    unfold F_l_thing
    by_cases c : 0 < u
    · simp_arith [e0, hr, e1, hr1, hd, e2, c, hr2, ep]
      refine ⟨d2.frame (l := [r]) (.set (by simp)) (by simp; exact hne), F2.then_set (.inl (by simp)), L.eraseIdx v.toNat, ?_, fun b hb => List.mem_of_mem_eraseIdx hb, ?_, .inr ⟨a, List.mem_of_getElem? ha, rfl⟩⟩
      · rw [eraseIdx_map']; first | done | simp_arith []
      · exact List.length_eraseIdx_le _ _
    · simp_arith [e0, hr, e1, hr1, hd, e2, c]
      exact ⟨d2, F2, L, hr2, fun _ x => x, Nat.le_refl _, .inr ⟨a, List.mem_of_getElem? ha, rfl⟩⟩

noncomputable def tailS : S := (sRet (eC (.bl true)))
noncomputable def br2 : S := (sDrop (eCall F_l_brought (aCons (eVar 0) (aCons (eCall F_l_thing (aCons (eVar 1) (aCons (eOp oDGet (eVar 0) (eC (dS "there"))) aNil))) aNil))))
noncomputable def br6 : S := (sDAugP oIAdd (eVar 0) (eC (dS "tick")) (eCall F_l_pick (aCons (eVar 1) (aCons (eLst (aCons (eC (.int 1)) (aCons (eC (.int 2)) (aCons (eC (.int 5)) (aCons (eC (.int 70)) aNil))))) aNil))))
noncomputable def br1 : S := (sDrop (eBL oExtend (eOp oDGet (eVar 0) (eC (dS "there"))) (aCons (eMeth "due" [("Giver", F_Giver_due)] (eOp oDGet (eVar 0) (eC (dS "giver"))) (aCons (eOp oDGet (eVar 0) (eC (dS "tick"))) aNil)) aNil)))
noncomputable def br7 : S := (sIf (tOf (eOp oEq (eCall F_l_next (aCons (eVar 1) (aCons (eC (.int 3)) aNil))) (eC (.int 0)))) (sSeq (sDrop (eMeth "finish" [("Giver", F_Giver_finish)] (eOp oDGet (eVar 0) (eC (dS "giver"))) aNil)) (sPut (eVar 0) (eC (dS "ended")) (eC (.int 1)))) sNx)
noncomputable def br5 : S := (sPut (eVar 0) (eC (dS "got")) (eOp oAdd (eOp oDGet (eVar 0) (eC (dS "got"))) (eMeth "read" [("Taker", F_Taker_read)] (eOp oDGet (eVar 0) (eC (dS "taker"))) (aCons (eCall F_l_pick (aCons (eVar 1) (aCons (eLst (aCons (eC (.int 1)) (aCons (eC (.int 0)) (aCons (eC (.int 3)) (aCons (eC (.int 128)) aNil))))) aNil))) aNil))))
noncomputable def br3 : S := (sSeq (sSet 7 (eOp oIx (eLst (aCons (eOp oDGet (eVar 0) (eC (dS "there"))) (aCons (eOp oDGet (eVar 0) (eC (dS "back"))) aNil))) (eCall F_l_next (aCons (eVar 1) (aCons (eC (.int 2)) aNil))))) (sIf (tOf (eOp oNe (eVar 7) (eLst aNil))) (sDrop (ePop1 (eVar 7) (eCall F_l_next (aCons (eVar 1) (aCons (eCB (c1 oLen) (aCons (eVar 7) aNil)) aNil))))) sNx))
noncomputable def br4 : S := (sSeq (sSet 8 (eCall F_l_thing (aCons (eVar 1) (aCons (eOp oDGet (eVar 0) (eC (dS "back"))) aNil)))) (sIf (tOf (eOp oIsNot (eVar 8) (eC .non))) (sDrop (eMeth "heard" [("Giver", F_Giver_heard)] (eOp oDGet (eVar 0) (eC (dS "giver"))) (aCons (eOp oIx (eVar 8) (eC (.int 0))) (aCons (eOp oIx (eVar 8) (eC (.int 1))) (aCons (eOp oDGet (eVar 0) (eC (dS "tick"))) aNil))))) sNx))
noncomputable def el6 : S := (sIf (tOf (eOp oEq (eVar 2) (eC (.int 6)))) br6 br7)
noncomputable def br0 : S := (sSeq (sSet 3 (eCall F_l_pick (aCons (eVar 1) (aCons (eLst (aCons (eC (.int 1)) (aCons (eC (.int 2)) (aCons (eC (.int 3)) (aCons (eC (.int 7)) (aCons (eC (.int 40)) (aCons (eC (.int 0)) aNil))))))) aNil)))) (sSeq (sSet 4 (eCB (c1 oTuple) (aCons (eLc (wAs rg1 (aCons (eVar 3) aNil)) (gN 5) tYe (eCall0 F_l_next (aCons (eVar 1) (aCons (eC (.int 256)) aNil))) [5]) aNil))) (sSeq (sSet 6 (eMeth "write" [("Giver", F_Giver_write)] (eOp oDGet (eVar 0) (eC (dS "giver"))) (aCons (eVar 4) aNil))) (sSeq (sIf (tOo (tNo (tOf (eCh oLe oLe (eC (.int 0)) (eVar 6) (eVar 3)))) (tAn (tOf (eOp oGt (eOp oDGet (eVar 0) (eC (dS "ended"))) (eC (.int 0)))) (tOf (eOp oGt (eVar 6) (eC (.int 0)))))) (sRet (eC (.bl false))) sNx) (sPut (eVar 0) (eC (dS "written")) (eOp oAdd (eOp oDGet (eVar 0) (eC (dS "written"))) (eSl oSl (eVar 4) oNo (oSo (eVar 6)))))))))
noncomputable def el5 : S := (sIf (tOf (eOp oEq (eVar 2) (eC (.int 5)))) br5 el6)
noncomputable def el4 : S := (sIf (tOf (eOp oEq (eVar 2) (eC (.int 4)))) br4 el5)
noncomputable def el3 : S := (sIf (tOf (eOp oEq (eVar 2) (eC (.int 3)))) br3 el4)
noncomputable def el2 : S := (sIf (tOf (eOp oEq (eVar 2) (eC (.int 2)))) br2 el3)
noncomputable def el1 : S := (sIf (tOf (eOp oEq (eVar 2) (eC (.int 1)))) br1 el2)
theorem deed_eq : F_l_deed = mkFn 2 9 (sSeq (sSet 2 (eCall F_l_pick (aCons (eVar 1) (aCons (eLst (aCons (eC (.int 0)) (aCons (eC (.int 1)) (aCons (eC (.int 1)) (aCons (eC (.int 2)) (aCons (eC (.int 2)) (aCons (eC (.int 2)) (aCons (eC (.int 3)) (aCons (eC (.int 4)) (aCons (eC (.int 4)) (aCons (eC (.int 5)) (aCons (eC (.int 6)) (aCons (eC (.int 7)) aNil))))))))))))) aNil)))) (sSeq (sIf (tOf (eOp oEq (eVar 2) (eC (.int 0)))) br0 el1) tailS)) := rfl
/-- the slots of a deed -/
def env0 (w dr : Nat) (kd : D) : Sl := [some (.ref w), some (.ref dr), some kd, none, none, none, none, none, none]
def Fin (w g t x y m : Nat) (A1 : Hs) : Prop := ∃ (k1 h1 : Nat) (W1 : Wd) (S1 : List D) (most : Int) (p1 q1 c1 : Nat), IsW A1 w g k1 t h1 x y W1 ∧ WI W1 S1 most p1 q1 c1 m
theorem Nx.ex {r : RS} {P : Sl → Hs → Prop} (h : Nx r P) : ∃ e A, r = .nx e A ∧ P e A := by
  cases r with
  | nx e A => exact ⟨e, A, rfl, h⟩
  | bk e A1 => exact h.elim
  | ct e A1 => exact h.elim
  | rt e A1 => exact h.elim
  | exc e A1 _ => exact h.elim
  | stuck => exact h.elim
theorem dis_off {A : Hs} {w g k t h x y dr : Nat} {W : Wd} (i : IsW A w g k t h x y W) (hd : Drw A dr) (hdr : dr ∉ [w, g, k, t, h, x, y]) : ∀ j ∈ [w, g, k, t, h, x, y], j ∉ [dr] := fun j hj => by rw [List.mem_singleton]; exact fun e => hdr (e ▸ hj)
section
variable {A : Hs} {w g k t h x y dr m : Nat} {W : Wd} {S : List D} {most : Int} {p q c : Nat} {kd : D}
theorem br1_ok (i : IsW A w g k t h x y W) (I : WI W S most p q c m) (hm : m ≤ 62) : Nx (br1 (env0 w dr kd) A) fun _ A1 => Fin w g t x y (m + 1) A1 := by
  obtain ⟨_, A1, e1, r, rfl, hr, l1, g1, f1⟩ := (due_ok (t := W.tick) i.ig I.gok I.nw (by have := I.ko.len; omega)).ex
  rw [dueL_P] at l1
  have i1 := i.upG (f1.mono (by simp)) g1 (.inl rfl)
  have o1 := i.ig.o
  have w0 := i.iw
  have x0 := i.ix
  have x1 := i1.ix
  have hx := lt_of_get x0
  obtain ⟨q', I'⟩ := I.due (by omega)
  have hlen : (List.map prD W.there).length + (List.map prD (W.G.dueP W.tick)).length ≤ 16000000 := by
    have := I'.tl
    simp only [List.length_append] at this
    simp only [List.length_map]; omega
  unfold br1 env0
  simp_arith [w0, kg_there, kg_giver, kg_tick, o1, Gv.fs, e1, x0, x1, l1]
  refine ⟨k, h, _, S, most, p, q', c, i1.upX (L := W.there ++ W.G.dueP W.tick) (.set (by simp)) ?_, I'⟩
  have hx1 := lt_of_get x1
  simp_arith [List.map_append]
theorem IsW.upXd {A1 : Hs} {L : List (Int × List D)} (i : IsW A w g k t h x y W) (F : Fr [dr, x] A A1) (hdr : dr ∉ [w, g, k, t, h, x, y]) (hx : A1[x]? = some (.lst (L.map prD))) : IsW A1 w g k t h x y { W with there := L } := by
  have a1 := ne_kind i.iw i.ix (by simp)
  have b1 := ne_kind i.ig.o i.ix (by simp)
  have c1 := ne_kind i.it.o i.ix (by simp)
  have c2 := ne_kind i.it.l i.ix (by simp)
  simp only [List.mem_cons, List.not_mem_nil, or_false, not_or] at hdr
  obtain ⟨d1, d2, d3, d4, d5, d6, d7⟩ := hdr
  exact ⟨F.get i.iw (by simp [a1, Ne.symm d1]), i.ig.frame F (by simp [b1, Ne.symm d2]) (by simp [i.kx, Ne.symm d3]), i.it.frame F (by simp [c1, Ne.symm d4]) (by simp [c2, Ne.symm d5]), hx, F.get i.iy (by simp [Ne.symm i.xy, Ne.symm d7]), i.kx, i.ky, i.xy, i.wh⟩
theorem IsW.upYd {A1 : Hs} {L : List (Int × Int)} (i : IsW A w g k t h x y W) (F : Fr [dr, y] A A1) (hdr : dr ∉ [w, g, k, t, h, x, y]) (hy : A1[y]? = some (.lst (L.map bkD))) : IsW A1 w g k t h x y { W with back := L } := by
  have a1 := ne_kind i.iw i.iy (by simp)
  have b1 := ne_kind i.ig.o i.iy (by simp)
  have c1 := ne_kind i.it.o i.iy (by simp)
  have c2 := ne_kind i.it.l i.iy (by simp)
  simp only [List.mem_cons, List.not_mem_nil, or_false, not_or] at hdr
  obtain ⟨d1, d2, d3, d4, d5, d6, d7⟩ := hdr
  exact ⟨F.get i.iw (by simp [a1, Ne.symm d1]), i.ig.frame F (by simp [b1, Ne.symm d2]) (by simp [i.ky, Ne.symm d3]), i.it.frame F (by simp [c1, Ne.symm d4]) (by simp [c2, Ne.symm d5]), F.get i.ix (by simp [i.xy, Ne.symm d6]), hy, i.kx, i.ky, i.xy, i.wh⟩
theorem br2_ok (i : IsW A w g k t h x y W) (I : WI W S most p q c m) (hm : m ≤ 62) (hd : Drw A dr) (hdr : dr ∉ [w, g, k, t, h, x, y]) : Nx (br2 (env0 w dr kd) A) fun _ A1 => Fin w g t x y (m + 1) A1 := by
  have tl := I.tl
  have bl := I.bl
  obtain ⟨v, A1, e1, d1, f1, L', l1, l2, l3, hv⟩ := (thing_ok prD (r := x) hd i.ix (by simp at hdr; omega) (by omega)).ex
  have w0 := i.iw
  have i1 := i.upXd f1 hdr l1
  have w1 := i1.iw
  have o1 := i1.it.o
  unfold br2 env0
  rcases hv with ⟨rfl, rfl⟩ | ⟨P, hP, rfl⟩
  · simp_arith [w0, kg_there, e1, F_l_brought]
    exact ⟨k, h, _, S, most, p, q, c, i1, I.up.roads (fun _ z => z) (Nat.le_refl _) (fun _ z => z) (Nat.le_refl _)⟩
  · obtain ⟨c', I'⟩ := I.brought (by omega) hP l2 l3
    obtain ⟨a, a1, a2, a3⟩ := (I.th P hP).1
    have hl := (I.th P hP).2
    have hPi : ∀ d ∈ P.2, Itm d := fun d hd => by
      obtain ⟨s, hs⟩ := List.mem_iff_getElem?.mp hd
      exact (I.st (by omega)).itm d (List.mem_of_getElem? (a3 s d hs).1)
    have ur := I.ti.ur
    have rm := I.rm
    obtain ⟨_, A2, e2, rfl, h', hh', t2, f2⟩ := (take_ok (number := P.1) (ds := P.2) i1.it (I.tok (by omega)) (by rw [a1]; exact nm_rg) hPi (by have := I.ti.r; show 0 ≤ W.T.room; omega) (by have := I.ti.al (I.st (by omega)) I.nk rm.2; show W.T.unread.length + W.T.ahead.length + P.2.length + 1 ≤ 50000; omega)).ex
    have i2 := i1.upT f2 t2 hh'
    generalize hT : W.T.take P.1 P.2 = T1 at *
    have w2 := i2.iw
    have y2 := i2.iy
    have o2 := i2.it.o
    have ew := wants_ok t2
    have hy2 := lt_of_get y2
    have hlen : (List.map bkD W.back).length + 1 ≤ 16000000 := by rw [List.length_map]; omega
    simp_arith [w0, kg_there, e1, F_l_brought, prD, w1, kg_taker, o1, Tv.fs, e2, w2, kg_back, o2, ew, y2]
    refine ⟨k, h', _, S, most, p, q, c', i2.upY (L := W.back ++ [(T1.wanted, T1.room - T1.unread.length)]) (.set (by simp)) ?_, I'⟩
    simp_arith [List.map_append]
    rfl

theorem br3_ok (i : IsW A w g k t h x y W) (I : WI W S most p q c m) (hm : m ≤ 62) (hd : Drw A dr) (hdr : dr ∉ [w, g, k, t, h, x, y]) : Nx (br3 (env0 w dr kd) A) fun _ A1 => Fin w g t x y (m + 1) A1 := by
  have tl := I.tl
  have bl := I.bl
  obtain ⟨v, A1, v0, v1, e1, d1, f1⟩ := next_ok (n := 2) (hd.frame (A1 := A ++ [O.lst [.ref x, .ref y]]) (l := []) .push (by simp)) (by omega) (by omega)
  have F1 : Fr [dr] A A1 := Fr.push.trans f1
  have i1 := i.frame F1 (dis_off i hd hdr)
  have l1 := f1.get (z9g (A := A) (u := O.lst [.ref x, .ref y])) (by have := hd.lt; simp; omega)
  have w0 := i.iw
  have x1 := i1.ix
  have y1 := i1.iy
  have nx := lt_of_get x1
  have ny := lt_of_get y1
  rcases (by omega : v = 0 ∨ v = 1) with rfl | rfl
  · by_cases z : W.there = []
    · have c0 := oNe_lst (A := A1 ++ [O.lst []]) (i := x) (j := A1.length) (l := []) (get_push (by rw [x1, z]; rfl)) z9g rfl
      unfold br3 env0
      simp_arith [w0, kg_there, kg_back, e1, l1, c0]
      exact ⟨k, h, _, S, most, p, q, c, i1.up0 .push, I.up⟩
    · have hp := List.length_pos_iff.mpr z
      have c0 := oNe_len (A := A1 ++ [O.lst []]) (i := x) (j := A1.length) (l := W.there.map prD) (k := []) (get_push x1) z9g (by rw [List.length_map]; simp; exact z)
      have x1' := get_push (u := O.lst []) x1
      obtain ⟨u, A2, u0, u1, e2, d2, f2⟩ := next_ok (n := W.there.length) (d1.frame (A1 := A1 ++ [O.lst []]) (l := []) .push (by simp)) (by omega) (by omega)
      have F2 : Fr [dr] A1 A2 := Fr.push.trans f2
      have i2 := i1.frame F2 (dis_off i1 d1 hdr)
      obtain ⟨a, ha⟩ : ∃ a, W.there[u.toNat]? = some a := ⟨_, List.getElem?_eq_getElem (by omega)⟩
      have ep := popAt_l (d := prD a) i2.ix u0 (by rw [List.getElem?_map, ha]; rfl) (by rw [List.length_map]; omega)
      have x2 := i2.ix
      unfold br3 env0
      simp_arith [w0, kg_there, kg_back, e1, l1, c0, x1, x1', e2, x2, ep]
      refine ⟨k, h, _, S, most, p, q, c, i2.upX (L := W.there.eraseIdx u.toNat) (.set (by simp)) ?_, I.up.roads (fun b hb => List.mem_of_mem_eraseIdx hb) (List.length_eraseIdx_le _ _) (fun _ z => z) (Nat.le_refl _)⟩
      have := lt_of_get x2
      rw [eraseIdx_map']
      first | done | simp_arith []
  · by_cases z : W.back = []
    · have c0 := oNe_lst (A := A1 ++ [O.lst []]) (i := y) (j := A1.length) (l := []) (get_push (by rw [y1, z]; rfl)) z9g rfl
      unfold br3 env0
      simp_arith [w0, kg_there, kg_back, e1, l1, c0]
      exact ⟨k, h, _, S, most, p, q, c, i1.up0 .push, I.up⟩
    · have hp := List.length_pos_iff.mpr z
      have c0 := oNe_len (A := A1 ++ [O.lst []]) (i := y) (j := A1.length) (l := W.back.map bkD) (k := []) (get_push y1) z9g (by rw [List.length_map]; simp; exact z)
      have y1' := get_push (u := O.lst []) y1
      obtain ⟨u, A2, u0, u1, e2, d2, f2⟩ := next_ok (n := W.back.length) (d1.frame (A1 := A1 ++ [O.lst []]) (l := []) .push (by simp)) (by omega) (by omega)
      have F2 : Fr [dr] A1 A2 := Fr.push.trans f2
      have i2 := i1.frame F2 (dis_off i1 d1 hdr)
      obtain ⟨a, ha⟩ : ∃ a, W.back[u.toNat]? = some a := ⟨_, List.getElem?_eq_getElem (by omega)⟩
      have ep := popAt_l (d := bkD a) i2.iy u0 (by rw [List.getElem?_map, ha]; rfl) (by rw [List.length_map]; omega)
      have y2 := i2.iy
      unfold br3 env0
      simp_arith [w0, kg_there, kg_back, e1, l1, c0, y1, y1', e2, y2, ep]
      refine ⟨k, h, _, S, most, p, q, c, i2.upY (L := W.back.eraseIdx u.toNat) (.set (by simp)) ?_, I.up.roads (fun _ z => z) (Nat.le_refl _) (fun b hb => List.mem_of_mem_eraseIdx hb) (List.length_eraseIdx_le _ _)⟩
      have := lt_of_get y2
      rw [eraseIdx_map']
      first | done | simp_arith []
theorem br4_ok (i : IsW A w g k t h x y W) (I : WI W S most p q c m) (hm : m ≤ 62) (hd : Drw A dr) (hdr : dr ∉ [w, g, k, t, h, x, y]) : Nx (br4 (env0 w dr kd) A) fun _ A1 => Fin w g t x y (m + 1) A1 := by
  have bl := I.bl
  obtain ⟨v, A1, e1, d1, f1, L', l1, l2, l3, hv⟩ := (thing_ok bkD (r := y) hd i.iy (by simp at hdr; omega) (by omega)).ex
  have w0 := i.iw
  have i1 := i.upYd f1 hdr l1
  have w1 := i1.iw
  have o1 := i1.ig.o
  unfold br4 env0
  rcases hv with ⟨rfl, rfl⟩ | ⟨P, hP, rfl⟩
  · simp_arith [w0, kg_back, e1]
    exact ⟨k, h, _, S, most, p, q, c, i1, I.up.roads (fun _ z => z) (Nat.le_refl _) (fun _ z => z) (Nat.le_refl _)⟩
  · obtain ⟨p', I'⟩ := I.up.heard (by omega) hP l2 l3
    obtain ⟨a, a1, a2, a3⟩ := I.bk P hP
    obtain ⟨_, A2, e2, rfl, k', hk', g2, f2⟩ := (heard_ok (a := P.1) (room := P.2) (t := W.tick) i1.ig I.gok.base (by rw [a2]; exact nm_rg) I.nw).ex
    have i2 := i1.upG (f2.mono (by simp)) g2 hk'
    simp_arith [w0, kg_back, e1, bkD, w1, kg_giver, kg_tick, o1, Gv.fs, e2]
    exact ⟨k', h, _, S, most, p', q, c, i2, I'⟩
theorem br5_ok (i : IsW A w g k t h x y W) (I : WI W S most p q c m) (hm : m ≤ 62) (hd : Drw A dr) (hdr : dr ∉ [w, g, k, t, h, x, y]) : Nx (br5 (env0 w dr kd) A) fun _ A1 => Fin w g t x y (m + 1) A1 := by
  obtain ⟨v, A1, e1, hv, d1, f1⟩ := (pickL_ok (l := [.int 1, .int 0, .int 3, .int 128]) hd (by simp) (by simp)).ex
  obtain ⟨n, rfl, hn⟩ : ∃ n : Int, v = .int n ∧ 0 ≤ n := by simp at hv; rcases hv with rfl | rfl | rfl | rfl <;> exact ⟨_, rfl, by decide⟩
  have i1 := i.frame f1 (dis_off i hd hdr)
  obtain ⟨_, A2, e2, rfl, t2, f2⟩ := (read_ok i1.it hn).ex
  have i2 := i1.upT (f2.mono (by simp)) t2 (.inl rfl)
  have w0 := i.iw
  have w1 := i1.iw
  have w2 := i2.iw
  have o0 := i.it.o
  have o1 := i1.it.o
  have hw := lt_of_get w2
  have I' := I.up.read (n := n.toNat)
  have hl1 : W.got.length + (W.T.unread.take n.toNat).length ≤ 100000 := by
    have e := congrArg List.length I'.ti.gt
    have : ((S.take c).filter isI).length ≤ S.length := Nat.le_trans (List.length_filter_le _ _) (by rw [List.length_take]; omega)
    have := (I.st (by omega)).len
    simp only [List.length_append] at e
    omega
  unfold br5 env0
  simp_arith [w0, kg_got, kg_taker, o0, Tv.fs, e1, o1, e2, w2, kp_got]
  refine ⟨k, h, _, S, most, p, q, c, i2.upD (W1 := { W with T := { W.T with unread := W.T.unread.drop n.toNat }, got := W.got ++ W.T.unread.take n.toNat }) (.set (by simp)) ?_ rfl rfl rfl rfl, I'⟩
  simp_arith []
  first | done | rfl
theorem br6_ok (i : IsW A w g k t h x y W) (I : WI W S most p q c m) (hm : m ≤ 62) (hd : Drw A dr) (hdr : dr ∉ [w, g, k, t, h, x, y]) : Nx (br6 (env0 w dr kd) A) fun _ A1 => Fin w g t x y (m + 1) A1 := by
  obtain ⟨v, A1, e1, hv, d1, f1⟩ := (pickL_ok (l := [.int 1, .int 2, .int 5, .int 70]) hd (by simp) (by simp)).ex
  obtain ⟨n, rfl, hn⟩ : ∃ n : Int, v = .int n ∧ 0 ≤ n := by simp at hv; rcases hv with rfl | rfl | rfl | rfl <;> exact ⟨_, rfl, by decide⟩
  have i1 := i.frame f1 (dis_off i hd hdr)
  have w0 := i.iw
  have w1 := i1.iw
  have hw := lt_of_get w1
  unfold br6 env0
  simp_arith [w0, kg_tick, e1, w1, kp_tick]
  refine ⟨k, h, _, S, most, p, q, c, i1.upD (W1 := { W with tick := W.tick + n }) (.set (by simp)) ?_ rfl rfl rfl rfl, I.up.tick hn⟩
  simp_arith [kp_tick]
theorem br7_ok (i : IsW A w g k t h x y W) (I : WI W S most p q c m) (hm : m ≤ 62) (hd : Drw A dr) (hdr : dr ∉ [w, g, k, t, h, x, y]) : Nx (br7 (env0 w dr kd) A) fun _ A1 => Fin w g t x y (m + 1) A1 := by
  obtain ⟨v, A1, v0, v1, e1, d1, f1⟩ := next_ok (n := 3) hd (by omega) (by omega)
  have i1 := i.frame f1 (dis_off i hd hdr)
  have w1 := i1.iw
  have o1 := i1.ig.o
  unfold br7 env0
  by_cases z : v = 0
  · obtain ⟨_, A2, e2, rfl, g2, f2⟩ := (finish_ok i1.ig (by have := I.ko.len; omega)).ex
    have i2 := i1.upG f2 g2 (.inl rfl)
    have w2 := i2.iw
    have hw := lt_of_get w2
    obtain ⟨S', I'⟩ := I.up.finish
    simp_arith [e1, z, w1, kg_giver, o1, Gv.fs, e2, w2, kp_ended]
    refine ⟨k, h, _, S', most, p, q, c, i2.upD (W1 := { W with G := W.G.finish, ended := 1 }) (.set (by simp)) ?_ rfl rfl rfl rfl, I'⟩
    simp_arith []
    first | done | rfl
  · simp_arith [e1, z]
    exact ⟨k, h, _, S, most, p, q, c, i1, I.up⟩
end

section
variable {A : Hs} {w g k t h x y dr m : Nat} {W : Wd} {S : List D} {most : Int} {p q c : Nat} {kd : D}
theorem bytes_ok {n : Int} (hd : Drw A dr) (hn : 0 ≤ n ∧ n ≤ 40) : Rk (lcL (gN 5) tYe (eCall0 F_l_next (aCons (eVar 1) (aCons (eC (.int 256)) aNil))) tt [some (.ref w), some (.ref dr), some kd, some (.int n), none, none, none, none, none] (rgL 0 1 n.toNat) [] A) fun l A1 => ∃ ds : List Int, l = ds.map D.int ∧ ds.length = n.toNat ∧ (∀ b ∈ ds, 0 ≤ b ∧ b ≤ 255) ∧ Drw A1 dr ∧ Fr [dr] A A1 := by
  refine (lc_run (fun j acc B => ∃ ds : List Int, acc = ds.map D.int ∧ ds.length = j ∧ (∀ b ∈ ds, 0 ≤ b ∧ b ≤ 255) ∧ Drw B dr ∧ Fr [dr] A B) ⟨[], rfl, rfl, by simp, hd, .refl⟩ (by rw [rgL_len]; omega) (fun _ _ _ _ => trivial) ?_).mono ?_
  · intro i d hd acc B hP
    obtain ⟨rfl, hi⟩ := rgL_get hd
    obtain ⟨ds, rfl, hl, hb, dB, fB⟩ := hP
    obtain ⟨v, B1, v0, v1, e1, d1, f1⟩ := next_ok (n := 256) dB (by decide) (by decide)
    simp_arith [e1]
    refine ⟨ds ++ [v], by simp, by simp [hl], fun b hb' => ?_, d1, fB.trans f1⟩
    rcases List.mem_append.mp hb' with z | z
    · exact hb b z
    · rw [List.mem_singleton] at z; omega
  · rintro l B ⟨ds, h1, h2, h3⟩
    exact ⟨ds, h1, by rw [h2, rgL_len], h3⟩
theorem br0_ok (i : IsW A w g k t h x y W) (I : WI W S most p q c m) (hm : m ≤ 62) (hd : Drw A dr) (hdr : dr ∉ [w, g, k, t, h, x, y]) : Nx (br0 (env0 w dr kd) A) fun _ A1 => Fin w g t x y (m + 1) A1 := by
  obtain ⟨v, A1, e1, hv, d1, f1⟩ := (pickL_ok (l := [.int 1, .int 2, .int 3, .int 7, .int 40, .int 0]) hd (by simp) (by simp)).ex
  obtain ⟨n, rfl, hn⟩ : ∃ n : Int, v = .int n ∧ 0 ≤ n ∧ n ≤ 40 := by simp at hv; rcases hv with rfl | rfl | rfl | rfl | rfl | rfl <;> exact ⟨_, rfl, by decide⟩
  obtain ⟨_, A2, e2, ds, rfl, hdl, hdb, d2, f2⟩ := (bytes_ok (w := w) (kd := kd) d1 hn).ex
  have F2 : Fr [dr] A A2 := f1.trans f2
  have i2 := i.frame F2 (dis_off i hd hdr)
  have i3 := i2.up0 (Fr.push (u := O.lst (ds.map D.int)))
  have w3 := i3.iw
  have o3 := i3.ig.o
  have hwl := I.wl
  unfold br0 env0
  simp_arith [e1, e2]
  rcases I.en with ⟨h0, hf⟩ | ⟨h0, hf⟩
  · have hko := I.ko
    rw [hf] at hko
    have hkn := hko.n
    simp only [Bool.false_eq_true, if_false, Nat.add_zero] at hkn
    obtain ⟨_, A4, e4, rfl, g4, f4⟩ := (write_ok (ds := ds) i3.ig hf hdb (by omega) (I.ki (by omega)) hkn (by have := I.ko.len; omega)).ex
    have i4 := i3.upG (f4.mono (by simp)) g4 (.inl rfl)
    have w4 := i4.iw
    have hw4 := lt_of_get w4
    have I' := I.write (ds := ds) h0 (by omega)
    have hN : 0 ≤ W.G.writeN ds.length ∧ W.G.writeN ds.length ≤ n := by unfold Gv.writeN; omega
    have hlen : W.written.length + ((ds.map D.int).take (W.G.writeN ds.length).toNat).length ≤ 100000 := by rw [List.length_take, List.length_map]; omega
    generalize W.G.writeN ds.length = N at *
    obtain ⟨X, hX⟩ : ∃ X, X = (ds.map D.int).take N.toNat := ⟨_, rfl⟩
    rw [← hX] at I' hlen
    have hsl : (List.take N.toNat (ds.map D.int)) = X := hX.symm
    simp_arith [w3, kg_giver, o3, Gv.fs, e4, hN.1, hN.2, w4, kg_ended, h0, kg_written, hsl, kp_written]
    refine ⟨k, h, _, _, most, p, q, c, i4.upD (W1 := { W with G := W.G.write ds, written := W.written ++ X }) (.set (by simp)) ?_ rfl rfl rfl rfl, I'⟩
    simp_arith [kp_written]
    rw [h0]
  · obtain ⟨_, A4, e4, rfl, g4, f4⟩ := (write_fin (ds := ds) i3.ig hf hdb (by omega)).ex
    have i4 := i3.up0 f4
    have w4 := i4.iw
    have hw4 := lt_of_get w4
    simp_arith [w3, kg_giver, o3, Gv.fs, e4, hn.1, w4, kg_ended, h0, kg_written]
    refine ⟨k, h, _, S, most, p, q, c, i4.upD (W1 := W) (.set (by simp)) ?_ rfl rfl rfl rfl, I.up⟩
    simp_arith [kp_written, List.take_zero]
    first | done | rfl
theorem deed_ok (i : IsW A w g k t h x y W) (I : WI W S most p q c m) (hm : m ≤ 62) (hd : Drw A dr) (hdr : dr ∉ [w, g, k, t, h, x, y]) : Rk (F_l_deed [.ref w, .ref dr] A) fun v A1 => v = .bl true ∧ Fin w g t x y (m + 1) A1 := by
  obtain ⟨v, A1, e1, hv, d1, f1⟩ := (pickL_ok (l := [.int 0, .int 1, .int 1, .int 2, .int 2, .int 2, .int 3, .int 4, .int 4, .int 5, .int 6, .int 7]) hd (by simp) (by simp)).ex
  have i1 := i.frame f1 (dis_off i hd hdr)
  simp only [List.mem_cons, List.not_mem_nil, or_false] at hv
  have hv' : v = .int 0 ∨ v = .int 1 ∨ v = .int 2 ∨ v = .int 3 ∨ v = .int 4 ∨ v = .int 5 ∨ v = .int 6 ∨ v = .int 7 := by
    rcases hv with rfl | rfl | rfl | rfl | rfl | rfl | rfl | rfl | rfl | rfl | rfl | rfl <;> simp
  clear hv
  rw [deed_eq]
  rcases hv' with rfl | rfl | rfl | rfl | rfl | rfl | rfl | rfl
  · obtain ⟨e, B, h1, h2⟩ := Nx.ex (br0_ok (kd := .int 0) i1 I hm d1 hdr)
    unfold env0 at h1
    simp_arith [e1, h1, tailS]
    exact h2
  · obtain ⟨e, B, h1, h2⟩ := Nx.ex (br1_ok (dr := dr) (kd := .int 1) i1 I hm)
    unfold env0 at h1
    simp_arith [e1, el1, h1, tailS]
    exact h2
  · obtain ⟨e, B, h1, h2⟩ := Nx.ex (br2_ok (kd := .int 2) i1 I hm d1 hdr)
    unfold env0 at h1
    simp_arith [e1, el1, el2, h1, tailS]
    exact h2
  · obtain ⟨e, B, h1, h2⟩ := Nx.ex (br3_ok (kd := .int 3) i1 I hm d1 hdr)
    unfold env0 at h1
    simp_arith [e1, el1, el2, el3, h1, tailS]
    exact h2
  · obtain ⟨e, B, h1, h2⟩ := Nx.ex (br4_ok (kd := .int 4) i1 I hm d1 hdr)
    unfold env0 at h1
    simp_arith [e1, el1, el2, el3, el4, h1, tailS]
    exact h2
  · obtain ⟨e, B, h1, h2⟩ := Nx.ex (br5_ok (kd := .int 5) i1 I hm d1 hdr)
    unfold env0 at h1
    simp_arith [e1, el1, el2, el3, el4, el5, h1, tailS]
    exact h2
  · obtain ⟨e, B, h1, h2⟩ := Nx.ex (br6_ok (kd := .int 6) i1 I hm d1 hdr)
    unfold env0 at h1
    simp_arith [e1, el1, el2, el3, el4, el5, el6, h1, tailS]
    exact h2
  · obtain ⟨e, B, h1, h2⟩ := Nx.ex (br7_ok (kd := .int 7) i1 I hm d1 hdr)
    unfold env0 at h1
    simp_arith [e1, el1, el2, el3, el4, el5, el6, h1, tailS]
    exact h2
end

section
variable {A : Hs} {w g k t h x y m : Nat} {W : Wd} {S : List D} {most : Int} {p q c : Nat}
theorem WI.gotw (I : WI W S most p q c m) : ∃ r, W.written = W.got ++ (W.T.unread ++ r) := by
  have e := filt_S (e := W.ended) I.wr
  rw [← I.eS, ← List.take_append_drop c S, List.filter_append, ← I.ti.gt] at e
  exact ⟨_, by rw [← e, List.append_assoc]⟩
theorem WI.got_pd (I : WI W S most p q c m) : W.got.all (pd 39) = true := by
  obtain ⟨r, hr⟩ := I.gotw
  refine itm_pd fun d hd => .inl (I.wr d ?_)
  rw [hr]; exact List.mem_append_left _ hd
theorem right_ok (i : IsW A w g k t h x y W) (I : WI W S most p q c m) (hm : m ≤ 63) : F_l_right [.ref w] A = .ok (.bl true) A := by
  have w0 := i.iw
  have o1 := i.ig.o
  have o2 := i.it.o
  have e1 := wants_ok i.it
  have e2 := ready_ok i.it
  have e3 := ended_ok i.it
  have e4 := answered_ok i.ig
  have e5 := left_ok i.ig
  obtain ⟨r, hr⟩ := I.gotw
  have hs : W.written.take W.got.length = W.got := by rw [hr, List.take_left']; rfl
  have n0 : oNe (.tup W.got) (.tup W.got) A = .ok (.bl false) A := oNe_pd (by rw [pd_tup]; exact I.got_pd)
  have hro := I.ti.r
  have hS := I.st hm
  have hcl : c ≤ S.length := Nat.le_trans I.ti.cq I.ti.qs
  have hlen := hS.len
  have hff := I.ff
  have hc : (W.T.wanted - W.first) % 4294967296 = (c : Int) := by
    rw [I.ti.w]; unfold nm; omega
  have hcnt := count_S (e := W.ended) I.wr (c := c) (by rw [← I.eS]; exact hcl)
  rw [← I.eS, ← I.ti.gt, ← I.ti.ov, List.length_append] at hcnt
  have hur := I.ti.ur
  have hps := I.gi.ps
  have hpc := I.pc
  have hkl := I.gi.kl
  have hSl := mkS_len (w := W.written) (e := W.ended)
  rw [← I.eS] at hSl
  have hen : (if W.ended = 1 then 1 else 0 : Nat) = W.ended := by rcases I.en with z | z <;> rw [z.1] <;> rfl
  have hL : W.G.passed + (W.G.kept.length : Int) = 1 + W.written.length + W.ended := by omega
  have hpa : ¬ W.G.passed > (c : Int) := by omega
  unfold F_l_right
  simp_arith [w0, kg_giver, kg_taker, kg_got, kg_written, Int.toNat_natCast, hs, n0, o1, o2, Gv.fs, Tv.fs, e1, e2, e3, e4, e5, kg_room, kg_first, kg_ended, hro, hc]
  cases ho : W.T.over with
  | true =>
    rw [ho] at hcnt
    have hc2 : (c : Int) = max 0 (min (c : Int) 1) + W.got.length + W.T.unread.length + 1 := by simp at hcnt; omega
    simp_arith [← hc2, hL]
  | false =>
    rw [ho] at hcnt
    have hc2 : (c : Int) = max 0 (min (c : Int) 1) + W.got.length + W.T.unread.length + 0 := by simp at hcnt; omega
    simp_arith [← hc2, hL]
end

theorem fold_more {t : Int} : ∀ (L : List (Int × List D)) {GT : Gv × Tv}, Nk GT.2 → (L.foldl (dl t) GT).1.fin = GT.1.fin ∧ Nk (L.foldl (dl t) GT).2
  | [], _, h => ⟨rfl, h⟩
  | P :: L, GT, h => by
    obtain ⟨a, b⟩ := fold_more L (GT := dl t GT P) (take_Nk h)
    exact ⟨a.trans (heard_kept (G := GT.1)).2.1, b⟩
theorem ms_step {fw N p p' v v' i B : Int} (f1 : 1 ≤ fw) (f4 : fw ≤ 4) (h : (fw + 2) * (N - p) + v + i ≤ B) (v0 : 0 ≤ v) (hp : p < p' ∧ v' ≤ fw + 1 ∨ p' = p ∧ v' + 1 ≤ v) : (fw + 2) * (N - p') + v' + (i + 1) ≤ B := by
  rcases (by omega : fw = 1 ∨ fw = 2 ∨ fw = 3 ∨ fw = 4) with rfl | rfl | rfl | rfl <;> omega
theorem ms_start {fw N p p' v' : Int} (f1 : 1 ≤ fw) (f4 : fw ≤ 4) (hp : p ≤ p') (hv : v' ≤ 16 * fw + 1) : (fw + 2) * (N - p') + v' + 0 ≤ (fw + 2) * (N - p) + 16 * fw + 1 := by
  rcases (by omega : fw = 1 ∨ fw = 2 ∨ fw = 3 ∨ fw = 4) with rfl | rfl | rfl | rfl <;> omega
theorem ms_end {fw N p p' v' n : Int} (f1 : 1 ≤ fw) (f4 : fw ≤ 4) (hp : p ≤ N) (hp' : p' < N) (v0 : 0 ≤ v') (hn : n = (N - p + 8) * 17 * fw) (h : (fw + 2) * (N - p') + v' + (n - 1) ≤ (fw + 2) * (N - p) + 16 * fw + 1) : False := by
  subst hn
  rcases (by omega : fw = 1 ∨ fw = 2 ∨ fw = 3 ∨ fw = 4) with rfl | rfl | rfl | rfl <;> omega
theorem nu_nn {fw most t : Int} {G : Gv} (h : GP fw most G) : 0 ≤ nu G t := by
  have h1 := h.w1
  have h2 := h.f1
  have : 0 ≤ nuR G t := by unfold nuR; split <;> omega
  unfold nu
  split
  · exact this
  · split <;> omega
section
variable {W : Wd} {S : List D} {most : Int} {p q c m : Nat}
theorem one_tick (I : WI W S most p q c m) (hm : m ≤ 63) : ∃ q' J0, q ≤ q' ∧ Jn W.first W.wait most (W.tick + 1) W.room S p c q' W.got (W.G.dueG (W.tick + 1)) p c (W.G.dueG (W.tick + 1), W.T) ∧ (∀ P ∈ W.G.dueP (W.tick + 1), PosOk W.first S p q' P) ∧
    ∃ p' c', J0 = (W.G.dueP (W.tick + 1)).foldl (dl (W.tick + 1)) (W.G.dueG (W.tick + 1), W.T) ∧ Jn W.first W.wait most (W.tick + 1) W.room S p c q' W.got (W.G.dueG (W.tick + 1)) p' c' J0 ∧
      (W.T.unread = [] → p < S.length → (p < p' ∧ nu J0.1 (W.tick + 1 + 1) ≤ W.wait + 1) ∨ (p' = p ∧ nu J0.1 (W.tick + 1 + 1) + 1 ≤ nu W.G (W.tick + 1))) := by
  have hS := I.st hm
  have si : ∀ u, W.G.since = some u → u < W.tick + 1 := fun u hu => by have := I.si u hu; omega
  obtain ⟨q0, z1, z2, z3, z4⟩ := start_Jn (t := W.tick + 1) I.gi I.gp hS I.ti I.pc si
  refine ⟨q0, (W.G.dueP (W.tick + 1)).foldl (dl (W.tick + 1)) (W.G.dueG (W.tick + 1), W.T), z1, z2, z3, ?_⟩
  obtain ⟨p', c', _, z5⟩ := fold_Jn hS I.rm.2 (W.G.dueP (W.tick + 1)) z2 z3
  refine ⟨p', c', rfl, z5, fun hu hl => ?_⟩
  obtain ⟨p2, q2, c2, j, h⟩ := tick_ok hS I.rm.2 I.rm.1 I.gi I.gp I.ti I.pc hu si hl
  have e : p2 = p' := by
    have a1 := j.gi.ps
    have a2 := z5.gi.ps
    omega
  rw [e] at h
  exact h
end
noncomputable def pairS : S := (sSeq (sDrop (eMeth "take" [("Taker", F_Taker_take)] (eVar 2) (aCons (eVar 4) (aCons (eVar 5) aNil)))) (sDrop (eMeth "heard" [("Giver", F_Giver_heard)] (eVar 1) (aCons (eOp oIx (eMeth "wants" [("Taker", F_Taker_wants)] (eVar 2) aNil) (eC (.int 0))) (aCons (eOp oIx (eMeth "wants" [("Taker", F_Taker_wants)] (eVar 2) aNil) (eC (.int 1))) (aCons (eOp oDGet (eVar 0) (eC (dS "tick"))) aNil))))))
noncomputable def tickS : S := (sSeq (sDAugP oIAdd (eVar 0) (eC (dS "tick")) (eC (.int 1))) (sSeq (sFor (wSeq (eMeth "due" [("Giver", F_Giver_due)] (eVar 1) (aCons (eOp oDGet (eVar 0) (eC (dS "tick"))) aNil))) (gT [(gN 4), (gN 5)]) pairS) (sPut (eVar 0) (eC (dS "got")) (eOp oAdd (eOp oDGet (eVar 0) (eC (dS "got"))) (eMeth "read" [("Taker", F_Taker_read)] (eVar 2) (aCons (eC (.int 128)) aNil))))))
theorem thr_eq : F_l_through = mkFn 1 6 (sSeq (sPar 1 2 (aCons (eOp oDGet (eVar 0) (eC (dS "giver"))) (aCons (eOp oDGet (eVar 0) (eC (dS "taker"))) aNil))) (sSeq (sFor (wAs rg1 (aCons (eOp oMul (eOp oMul (eOp oAdd (eMeth "left" [("Giver", F_Giver_left)] (eVar 1) aNil) (eC (.int 8))) (eC (.int 17))) (eOp oDGet (eVar 0) (eC (dS "wait")))) aNil)) (gN 3) (sIf (tOo (tOf (eOp oGt (eMeth "left" [("Giver", F_Giver_left)] (eVar 1) aNil) (eC (.int 0)))) (tOf (eOp oLt (eCB (c1 oLen) (aCons (eOp oDGet (eVar 0) (eC (dS "got"))) aNil)) (eCB (c1 oLen) (aCons (eOp oDGet (eVar 0) (eC (dS "written"))) aNil))))) tickS sNx)) (sRet (eAnd (eOp oEq (eMeth "left" [("Giver", F_Giver_left)] (eVar 1) aNil) (eC (.int 0))) (eAnd (eOp oEq (eOp oDGet (eVar 0) (eC (dS "got"))) (eOp oDGet (eVar 0) (eC (dS "written")))) (eOp oEq (eMeth "ended" [("Taker", F_Taker_ended)] (eVar 2) aNil) (eOp oEq (eOp oDGet (eVar 0) (eC (dS "ended"))) (eC (.int 1))))))))) := rfl
def eT (w g t : Nat) (o3 o4 o5 : Option D) : Sl := [some (.ref w), some (.ref g), some (.ref t), o3, o4, o5]
section
variable {A : Hs} {w g k t h x y m : Nat} {W : Wd} {S : List D} {most : Int} {p q c : Nat} {o3 o4 o5 : Option D}
theorem pair_ok {GT : Gv × Tv} {p0 c0 p c q : Nat} {G1 : Gv} {f fw R : Int} {got : List D} {P : Int × List D} (i : IsW A w g k t h x y W) (hG : W.G = GT.1) (hT : W.T = GT.2) (hS : St S) (hR : R ≤ 128) (nk : Nk GT.2)
    (J : Jn f fw most W.tick R S p0 c0 q got G1 p c GT) (hP : PosOk f S p0 q P) (hl : P.2.length ≤ 200) :
    Nx (pairS (eT w g t o3 (some (.int P.1)) (some (.tup P.2))) A) fun e A1 => e = eT w g t o3 (some (.int P.1)) (some (.tup P.2)) ∧ ∃ k1 h1, IsW A1 w g k1 t h1 x y { W with G := (dl W.tick GT P).1, T := (dl W.tick GT P).2 } ∧ ∀ (j : Nat) (l : List D), A[j]? = some (.lst l) → A1[j]? = some (.lst l) := by
  obtain ⟨a, a1, a2, a3⟩ := hP
  obtain ⟨c', J1, J2, _⟩ := dl_Jn hS hR J ⟨a, a1, a2, a3⟩
  have hTi := J2.ti
  have hPi : ∀ d ∈ P.2, Itm d := fun d hd => by
    obtain ⟨s, hs⟩ := List.mem_iff_getElem?.mp hd
    exact hS.itm d (List.mem_of_getElem? (a3 s d hs).1)
  have ur := J.ti.ur
  obtain ⟨_, A1, e1, rfl, h', hh', t1, f1⟩ := (take_ok (number := P.1) (ds := P.2) i.it (by rw [hT]; exact J.ti.ok hS nk hR) (by rw [a1]; exact nm_rg) hPi (by rw [hT]; have := J.ti.r; omega) (by rw [hT]; have := J.ti.al hS nk hR; omega)).ex
  have i1 := i.upT f1 t1 hh'
  have hT1 : W.T.take P.1 P.2 = (dl W.tick GT P).2 := by rw [hT]; rfl
  rw [hT1] at i1 t1
  obtain ⟨T1, hT1'⟩ : ∃ T1, T1 = (dl W.tick GT P).2 := ⟨_, rfl⟩
  have hG1 : (dl W.tick GT P).1 = W.G.heardG T1.wanted (T1.room - T1.unread.length) W.tick := by rw [hT1', hG]; rfl
  rw [← hT1'] at i1 t1 hTi
  rw [← hT1', hG1]
  obtain ⟨_, A2, e2, rfl, k', hk', g2, f2⟩ := (heard_ok (a := T1.wanted) (room := T1.room - T1.unread.length) (t := W.tick) i1.ig (by show 0 ≤ W.G.base ∧ W.G.base < 4294967296; rw [hG, J.gi.b]; exact nm_rg) (by rw [hTi.w]; exact nm_rg) (by show W.G.now ≤ W.tick; rw [hG, J.nw]; exact Int.le_refl _)).ex
  have i2 := i1.upG (f2.mono (by simp)) g2 hk'
  have w1 := i1.iw
  have o0 := i.it.o
  have o1 := i1.it.o
  have og := i1.ig.o
  have ew := wants_ok t1
  unfold pairS eT
  simp_arith [o0, Tv.fs, e1, o1, og, Gv.fs, ew, w1, kg_tick, e2]
  refine ⟨k', h', i2, fun j l hj => ?_⟩
  have b1 := ne_kind hj i.it.o (by simp)
  have b2 := ne_kind hj i.it.l (by simp)
  have hj1 := f1.get hj (by simp [b1, b2])
  have b3 := ne_kind hj1 i1.ig.o (by simp)
  exact f2.get hj1 (by simp [b3])

theorem tick_body (i : IsW A w g k t h x y W) (I : WI W S most p q c m) (hm : m ≤ 63) :
    Nx (tickS (eT w g t o3 o4 o5) A) fun e A1 => ∃ (o4 o5 : Option D) (k1 h1 : Nat) (W1 : Wd) (p1 q1 c1 : Nat), e = eT w g t o3 o4 o5 ∧ IsW A1 w g k1 t h1 x y W1 ∧ WI W1 S most p1 q1 c1 m ∧ W1.wait = W.wait ∧ W1.T.unread = [] ∧ p ≤ p1 ∧
      nu W1.G (W1.tick + 1) ≤ 16 * W.wait + 1 ∧ (W.T.unread = [] → p < S.length → (p < p1 ∧ nu W1.G (W1.tick + 1) ≤ W.wait + 1) ∨ (p1 = p ∧ nu W1.G (W1.tick + 1) + 1 ≤ nu W.G (W.tick + 1))) := by
  have hS := I.st hm
  have hR := I.rm.2
  obtain ⟨q', J0, zq, z1, z2, p', c', eJ, z3, z4⟩ := one_tick I hm
  obtain ⟨d1, d2⟩ := dueP_ok (t := W.tick + 1) I.gok (I.ki hm) I.ko.len
  obtain ⟨m1, m2⟩ := fold_more (t := W.tick + 1) (W.G.dueP (W.tick + 1)) (GT := (W.G.dueG (W.tick + 1), W.T)) I.nk
  have w0 := i.iw
  have hw := lt_of_get w0
  have i1 : IsW (A.set w (.dic false false (Wd.kv { W with tick := W.tick + 1 } g t x y))) w g k t h x y { W with tick := W.tick + 1 } := i.upD (.set (by simp)) (z8r hw) rfl rfl rfl rfl
  obtain ⟨_, A2, e2, r, rfl, hr, l2, g2, f2⟩ := (due_ok (t := W.tick + 1) i1.ig I.gok (by show W.G.now ≤ _; have := I.nw; omega) (by show W.G.kept.length ≤ 1000; have := I.ko.len; omega)).ex
  have i2 := i1.upG (f2.mono (by simp)) g2 (.inl rfl)
  rw [show ({ W with tick := W.tick + 1 } : Wd).G = W.G from rfl, dueL_P] at l2
  have w1 := i1.iw
  have o1 := i1.ig.o
  have hkv : (W.kv g t x y).length < 16000000 := by rw [kv_len]; decide
  unfold tickS eT
  simp_arith [w0, kg_tick, z9s hkv, kp_tick, w1, o1, Gv.fs, e2, l2]
  refine for_go (R := fun rs => Nx (seqR rs _) _) (fun j e B => ∃ (o4 o5 : Option D) (k1 h1 p2 c2 : Nat), e = eT w g t o3 o4 o5 ∧ B[r]? = some (.lst ((W.G.dueP (W.tick + 1)).map prD)) ∧
      IsW B w g k1 t h1 x y { W with tick := W.tick + 1, G := (((W.G.dueP (W.tick + 1)).take j).foldl (dl (W.tick + 1)) (W.G.dueG (W.tick + 1), W.T)).1, T := (((W.G.dueP (W.tick + 1)).take j).foldl (dl (W.tick + 1)) (W.G.dueG (W.tick + 1), W.T)).2 } ∧
      Jn W.first W.wait most (W.tick + 1) W.room S p c q' W.got (W.G.dueG (W.tick + 1)) p2 c2 (((W.G.dueP (W.tick + 1)).take j).foldl (dl (W.tick + 1)) (W.G.dueG (W.tick + 1), W.T)))
    ⟨o4, o5, k, h, p, c, rfl, l2, i2, z1⟩ (fun _ _ _ _ h => by obtain ⟨_, _, _, _, _, _, _, h, _⟩ := h; exact h) ?_ ?_
  · rintro j _ B d hd ⟨o4, o5, k1, h1, p2, c2, rfl, lB, iB, J⟩
    rw [List.getElem?_map] at hd
    obtain ⟨P, hP, rfl⟩ := Option.map_eq_some_iff.mp hd
    have hPm := List.mem_of_getElem? hP
    obtain ⟨_, nk⟩ := fold_more (t := W.tick + 1) ((W.G.dueP (W.tick + 1)).take j) (GT := (W.G.dueG (W.tick + 1), W.T)) I.nk
    have eF : ((W.G.dueP (W.tick + 1)).take (j + 1)).foldl (dl (W.tick + 1)) (W.G.dueG (W.tick + 1), W.T) = dl (W.tick + 1) (((W.G.dueP (W.tick + 1)).take j).foldl (dl (W.tick + 1)) (W.G.dueG (W.tick + 1), W.T)) P := by
      rw [List.take_succ, hP, Option.toList_some, List.foldl_append]; rfl
    obtain ⟨c', _, J', _⟩ := dl_Jn hS hR J (z2 P hPm)
    rw [eF]
    generalize hF : ((W.G.dueP (W.tick + 1)).take j).foldl (dl (W.tick + 1)) (W.G.dueG (W.tick + 1), W.T) = GT at *
    obtain ⟨_, B1, e1, rfl, k2, h2, i3, hfr⟩ := Nx.ex (pair_ok (o3 := o3) iB rfl rfl hS hR nk J (z2 P hPm) (d2 P hPm).2.2.2)
    unfold eT at e1 ⊢
    simp_arith [prD]
    rw [e1]
    exact ⟨_, _, k2, h2, c', c', rfl, hfr r _ lB, i3, J'⟩
  · rintro _ B ⟨o4, o5, k1, h1, p2, c2, rfl, lB, iB, J⟩
    rw [List.length_map, List.take_length, ← eJ] at iB J
    rw [← eJ] at m1 m2
    have ep : p2 = p' := by
      have a1 := J.gi.ps
      have a2 := z3.gi.ps
      omega
    subst ep
    clear z3
    have w3 := iB.iw
    have o3' := iB.it.o
    obtain ⟨_, B1, b1, rfl, t3, f3⟩ := (read_ok (n := 128) iB.it (by decide)).ex
    have i3 := iB.upT (f3.mono (by simp)) t3 (.inl rfl)
    have w4 := i3.iw
    have hw4 := lt_of_get w4
    have hti := J.ti
    have hun : J0.2.unread.drop 128 = [] := List.drop_eq_nil_of_le (by have := hti.ur; omega)
    have htk : J0.2.unread.take 128 = J0.2.unread := List.take_of_length_le (by have := hti.ur; omega)
    obtain ⟨k1', k2', k3'⟩ := due_kept (G := W.G) (t := W.tick + 1)
    have m1' : J0.1.fin = W.G.fin := m1.trans k2'
    have I' : WI { W with tick := W.tick + 1, G := J0.1, T := { J0.2 with unread := J0.2.unread.drop 128 }, got := W.got ++ J0.2.unread.take 128 } S most p2 q' c2 m := { I with
      en := by show W.ended = 0 ∧ J0.1.fin = false ∨ W.ended = 1 ∧ J0.1.fin = true; rw [m1']; exact I.en
      gi := J.gi
      gp := J.gp
      ti := hti.read
      pc := J.pc
      th := fun P hP => by
        obtain ⟨u, v⟩ := I.th P hP
        exact ⟨u.mono0 (Nat.le_refl _) zq, v⟩
      bk := fun P hP => by
        obtain ⟨u, u1, u2⟩ := I.bk P hP
        exact ⟨u, Nat.le_trans u1 J.lc, u2⟩
      ko := by
        show KO J0.1.kept J0.1.fin
        rw [m1', J.gi.k, show p2 = p + (p2 - p) by have := J.lp; omega, ← List.drop_drop, ← I.gi.k]
        exact I.ko.drop
      nw := by show J0.1.now ≤ W.tick + 1; rw [J.nw]; exact Int.le_refl _
      si := J.si
      nk := m2 }
    have hgl : W.got.length + (J0.2.unread.take 128).length ≤ 100000 := by
      obtain ⟨r', hr'⟩ := I'.gotw
      have e := congrArg List.length hr'
      have := I.wl
      simp only [List.length_append] at e
      omega
    unfold eT
    simp_arith [w3, kg_got, kg_taker, o3', Tv.fs, b1, w4, kp_got]
    refine ⟨o4, o5, k1, h1, _, p2, q', c2, rfl, i3.upD (W1 := { W with tick := W.tick + 1, G := J0.1, T := { J0.2 with unread := J0.2.unread.drop 128 }, got := W.got ++ J0.2.unread.take 128 }) (.set (by simp)) ?_ rfl rfl rfl rfl, I', rfl, hun, J.lp, nu_le J.gp.w2 (by have := J.gp.f1; omega) J.si, z4⟩
    simp_arith [kp_got]
    first | done | rfl
end

section
variable {A : Hs} {w g k t h x y m : Nat} {W : Wd} {S : List D} {most : Int} {p q c : Nat}
theorem WI.left (I : WI W S most p q c m) (hm : m ≤ 63) : (W.G.kept.length : Int) = (S.length : Int) - p ∧ (W.G.kept.length : Int) ≤ 514 ∧ 1 ≤ W.wait ∧ W.wait ≤ 4 := by
  have h1 := I.gi.kl
  have h2 := I.ko.len
  have h3 := I.gp.f1
  have h4 := I.wt
  omega
/-- all is read where all is taken -/
theorem WI.all (I : WI W S most p q c m) (hp : S.length ≤ p) : W.written = W.got ++ W.T.unread ∧ (W.T.over = decide (W.ended = 1)) := by
  have hc : S.length ≤ c := Nat.le_trans hp I.pc
  have e1 := I.ti.gt
  have e2 := I.ti.ov
  rw [List.take_of_length_le hc] at e1 e2
  refine ⟨?_, ?_⟩
  · rw [e1, I.eS, filt_S I.wr]
  · rw [e2, I.eS]
    unfold mkS
    rw [List.cons_append, List.any_cons, isE_o, List.any_append, any_int I.wr]
    by_cases z : W.ended = 1
    · simp [z, isE_e]
    · simp [z]
theorem through_ok (i : IsW A w g k t h x y W) (I : WI W S most p q c 63) : Rk (F_l_through [.ref w] A) fun v A1 => v = .bl true ∧ Fin w g t x y 63 A1 := by
  obtain ⟨kl, kb, fw1, fw4⟩ := I.left (Nat.le_refl _)
  have pl : p ≤ S.length := Nat.le_trans I.gi.pq I.gi.qs
  have w0 := i.iw
  have o0 := i.ig.o
  have e0 := left_ok i.ig
  have hn0 : (W.G.kept.length + 8 : Int) * 17 * W.wait ≤ 40000 ∧ 17 ≤ (W.G.kept.length + 8 : Int) * 17 * W.wait := by
    rcases (by omega : W.wait = 1 ∨ W.wait = 2 ∨ W.wait = 3 ∨ W.wait = 4) with z | z | z | z <;> rw [z] <;> omega
  obtain ⟨n, hn⟩ : ∃ n : Int, n = (W.G.kept.length + 8 : Int) * 17 * W.wait := ⟨_, rfl⟩
  rw [← hn] at hn0
  rw [thr_eq]
  simp_arith [w0, kg_giver, kg_taker, o0, Gv.fs, e0, kg_wait, ← hn]
  refine for_go (R := fun rs => Rk (finR (seqR rs _)) _) (fun j e B => ∃ (o3 o4 o5 : Option D) (k1 h1 : Nat) (W1 : Wd) (p1 q1 c1 : Nat), e = eT w g t o3 o4 o5 ∧ IsW B w g k1 t h1 x y W1 ∧ WI W1 S most p1 q1 c1 63 ∧ W1.wait = W.wait ∧ p ≤ p1 ∧
      (1 ≤ j → W1.T.unread = [] ∧ (p1 < S.length → (W.wait + 2) * ((S.length : Int) - p1) + nu W1.G (W1.tick + 1) + ((j : Int) - 1) ≤ (W.wait + 2) * ((S.length : Int) - p) + 16 * W.wait + 1)))
    ⟨none, none, none, k, h, W, p, q, c, rfl, i, I, rfl, Nat.le_refl _, fun z => by omega⟩ (fun _ _ _ _ _ => trivial) ?_ ?_
  · rintro j _ B d hd ⟨o3, o4, o5, k1, h1, W1, p1, q1, c1, rfl, iB, IB, hW, hp, hj⟩
    obtain ⟨rfl, hjn⟩ := rgL_get hd
    obtain ⟨kl1, kb1, _, _⟩ := IB.left (Nat.le_refl _)
    have pl1 : p1 ≤ S.length := Nat.le_trans IB.gi.pq IB.gi.qs
    have w1 := iB.iw
    have o1 := iB.ig.o
    have e1 := left_ok iB.ig
    by_cases z : 0 < (W1.G.kept.length : Int) ∨ (W1.got.length : Int) < W1.written.length
    · obtain ⟨_, B1, b1, o4', o5', k2, h2, W2, p2, q2, c2, rfl, i2, I2, r1, r2, r3, r4, r5⟩ := Nx.ex (tick_body (o3 := some (.int (0 + (j : Nat) * 1))) (o4 := o4) (o5 := o5) iB IB (Nat.le_refl _))
      unfold eT at b1
      have key : ∃ (o3 o4 o5 : Option D) (k1 h1 : Nat) (W1 : Wd) (p1 q1 c1 : Nat), eT w g t (some (.int (0 + (j : Nat) * 1))) o4' o5' = eT w g t o3 o4 o5 ∧ IsW B1 w g k1 t h1 x y W1 ∧ WI W1 S most p1 q1 c1 63 ∧ W1.wait = W.wait ∧ p ≤ p1 ∧
          (True → W1.T.unread = [] ∧ (p1 < S.length → (W.wait + 2) * ((S.length : Int) - p1) + nu W1.G (W1.tick + 1) + (((j + 1 : Nat) : Int) - 1) ≤ (W.wait + 2) * ((S.length : Int) - p) + 16 * W.wait + 1)) :=
        ⟨_, _, _, k2, h2, W2, p2, q2, c2, rfl, i2, I2, r1.trans hW, Nat.le_trans hp r3, fun _ => ⟨r2, fun hlt => by
          rw [hW] at r4 r5
          cases j with
          | zero =>
            have := ms_start (N := S.length) (p := p) (p' := p2) fw1 fw4 (by omega) r4
            push_cast at this ⊢
            omega
          | succ j =>
            obtain ⟨u1, u2⟩ := hj (by omega)
            have hlt1 : p1 < S.length := by omega
            have := ms_step (i := ((j + 1 : Nat) : Int) - 1) (p' := p2) fw1 fw4 (u2 hlt1) (nu_nn IB.gp) (by
              rcases r5 u1 hlt1 with s | s
              · exact .inl ⟨by omega, s.2⟩
              · exact .inr ⟨by rw [s.1], s.2⟩)
            push_cast at this ⊢
            omega⟩⟩
      unfold eT at key
      by_cases z1 : 0 < (W1.G.kept.length : Int)
      · unfold eT
        simp_arith [o1, Gv.fs, e1, z1, b1]
        exact key
      · have z2 : (W1.got.length : Int) < W1.written.length := by omega
        unfold eT
        simp_arith [o1, Gv.fs, e1, z1, w1, kg_got, kg_written, z2, b1]
        exact key
    · have z1 : ¬ 0 < (W1.G.kept.length : Int) := fun h => z (.inl h)
      have z2 : ¬ (W1.got.length : Int) < W1.written.length := fun h => z (.inr h)
      have hun : W1.T.unread = [] := by
        have e := congrArg List.length (IB.all (by omega)).1
        rw [List.length_append] at e
        exact List.length_eq_zero_iff.mp (by omega)
      unfold eT
      simp_arith [o1, Gv.fs, e1, z1, w1, kg_got, kg_written, z2]
      exact ⟨_, _, _, k1, h1, W1, p1, q1, c1, rfl, iB, IB, hW, hp, fun _ => ⟨hun, fun hlt => by omega⟩⟩
  · rintro _ B ⟨o3, o4, o5, k1, h1, W1, p1, q1, c1, rfl, iB, IB, hW, hp, hj⟩
    rw [rgL_len] at hj
    obtain ⟨hun, hms⟩ := hj (by omega)
    have hN : S.length ≤ p1 := by
      rcases Nat.lt_or_ge p1 S.length with z | z
      · exact (ms_end (N := S.length) (p := p) (p' := p1) (n := n) fw1 fw4 (by omega) (by omega) (nu_nn IB.gp (t := W1.tick + 1)) (by rw [hn, kl]) (by have := hms z; rw [Int.toNat_of_nonneg (by omega)] at this; exact this)).elim
      · exact z
    obtain ⟨a1, a2⟩ := IB.all hN
    rw [hun, List.append_nil] at a1
    obtain ⟨kl1, _⟩ := IB.left (Nat.le_refl _)
    have hk0 : (W1.G.kept.length : Int) = 0 := by omega
    have w1 := iB.iw
    have o1 := iB.ig.o
    have o2 := iB.it.o
    have e1 := left_ok iB.ig
    have e2 := ended_ok iB.it
    rw [hk0] at e1
    rw [a2] at e2
    have n0 : oEq (.tup W1.got) (.tup W1.got) B = .ok (.bl true) B := oEq_pd (by rw [pd_tup]; exact IB.got_pd)
    have nb : oEq (.bl (decide (W1.ended = 1))) (.bl (decide (W1.ended = 1))) B = .ok (.bl true) B := by rw [oEq_bb]; simp
    unfold eT
    simp_arith [o1, Gv.fs, e1, w1, kg_got, kg_written, a1, n0, o2, Tv.fs, e2, kg_ended, nb]
    exact ⟨k1, h1, W1, S, most, p1, q1, c1, iB, IB⟩
end

def W0 (f most w r : Int) : Wd := ⟨⟨f, most, w, w, 0, 1, most, 0, 0, 0, none, false, [dS "o"]⟩, ⟨f, r, [], [], false⟩, w, r, f, 0, [], [], [], [], 0⟩
theorem W0_ok {f most w r : Int} (hf : 0 ≤ f ∧ f < 4294967296) (hm : 1 ≤ most ∧ most ≤ 200) (hw : 1 ≤ w ∧ w ≤ 4) (hr : 1 ≤ r ∧ r ≤ 128) : WI (W0 f most w r) (mkS [] 0) most 0 0 0 0 := by
  have ef : f = nm f 0 := by unfold nm; simp; omega
  refine { eS := rfl, wr := fun d hd => (by cases hd), en := .inl ⟨rfl, rfl⟩, gi := ⟨ef, rfl, rfl, rfl, Nat.le_refl _, Nat.zero_le _⟩, gp := ⟨rfl, hw.1, rfl, hm.1, hm.2, Int.le_refl _, by show w ≤ 16 * w; omega, hm.1, by show (0 : Int) ≤ 1; decide⟩, ti := ⟨⟨ef, rfl, Nat.le_refl _, Nat.zero_le _, fun p hp => (by cases hp), by show (0 : Int) ≤ r; omega, rfl, rfl⟩, rfl⟩, pc := Nat.le_refl _, th := fun P hP => (by cases hP), bk := fun P hP => (by cases hP), ko := ⟨?_, ?_⟩, nw := Int.le_refl _, si := fun u hu => (by cases hu), nk := List.Pairwise.nil, wl := Nat.le_refl _, tl := Nat.zero_le _, bl := Nat.le_refl _, ff := hf, wt := hw.2, rm := hr }
  · exact Nat.le_trans (List.length_filter_le _ _) (by show 1 ≤ 512 + 0; decide)
  · exact List.length_filter_le _ _
theorem WI.mono {W : Wd} {S : List D} {most : Int} {p q c m n : Nat} (h : WI W S most p q c m) (hm : m ≤ n) : WI W S most p q c n := { h with wl := by have := h.wl; omega, tl := by have := h.tl; omega, bl := by have := h.bl; omega }
theorem world_ok (ns : List Int) : Rk (F_l_world [.scr (ns.map D.int)] []) fun v A1 => ∃ (w g t x y : Nat), v = .ref w ∧ Fin w g t x y 0 A1 := by
  obtain ⟨A1, e1, d1, f1⟩ := draw0_ok (k := 0) (c := 0) (ns := ns) rfl (by decide)
  obtain ⟨_, A2, e2, f, rfl, hf0, hf1, d2, f2⟩ := (first_ok d1).ex
  obtain ⟨v3, A3, e3, m3, d3, f3⟩ := (pickL_ok (l := [.int 1, .int 2, .int 3, .int 32, .int 200]) d2 (by simp) (by simp)).ex
  obtain ⟨v4, A4, e4, m4, d4, f4⟩ := (pickL_ok (l := [.int 1, .int 2, .int 4]) d3 (by simp) (by simp)).ex
  obtain ⟨v5, A5, e5, m5, d5, f5⟩ := (pickL_ok (l := [.int 1, .int 2, .int 5, .int 16, .int 128]) d4 (by simp) (by simp)).ex
  obtain ⟨most, rfl, hm⟩ : ∃ m, v3 = .int m ∧ 1 ≤ m ∧ m ≤ 200 := by simp at m3; rcases m3 with rfl | rfl | rfl | rfl | rfl <;> exact ⟨_, rfl, by decide⟩
  obtain ⟨wt, rfl, hw⟩ : ∃ m, v4 = .int m ∧ 1 ≤ m ∧ m ≤ 4 := by simp at m4; rcases m4 with rfl | rfl | rfl <;> exact ⟨_, rfl, by decide⟩
  obtain ⟨room, rfl, hr⟩ : ∃ m, v5 = .int m ∧ 1 ≤ m ∧ m ≤ 128 := by simp at m5; rcases m5 with rfl | rfl | rfl | rfl | rfl <;> exact ⟨_, rfl, by decide⟩
  clear m3 m4 m5
  obtain ⟨_, A6, e6, rfl, g6, f6⟩ := (giver_ok (A := A5) (f := f) (m := most) (w := wt) ⟨hf0, hf1⟩ hm hw.1).ex
  obtain ⟨_, A7, e7, rfl, t7, f7⟩ := (taker_ok (A := A6) (f := f) (r := room) ⟨hf0, by omega⟩ hr).ex
  have n6 := lt_of_get g6.l
  have n7 := lt_of_get t7.l
  have g7 := g6.frame f7 (by simp) (by simp)
  unfold F_l_world
  simp_arith [e1, e2, e3, e4, e5, e6, e7]
  obtain ⟨B, hB⟩ : ∃ B, B = A7 ++ [O.lst []] ++ [O.lst []] ++ [O.dic false false ((W0 f most wt room).kv A5.length A6.length A7.length (A7.length + 1))] := ⟨_, rfl⟩
  have FB : Fr [] A7 B := by rw [hB]; exact (Fr.push.trans Fr.push).trans Fr.push
  have n67 := f7.le
  have key : IsW B (A7.length + 1 + 1) A5.length (A5.length + 1) A6.length (A6.length + 1) A7.length (A7.length + 1) (W0 f most wt room) :=
    ⟨by rw [hB]; simp_arith [], g7.frame FB (by simp) (by simp), t7.frame FB (by simp) (by simp), by rw [hB]; simp_arith []; rfl, by rw [hB]; simp_arith []; rfl, by omega, by omega, by omega, by omega⟩
  rw [hB] at key
  exact ⟨A7.length + 1 + 1, A5.length, A6.length, A7.length, A7.length + 1, rfl, A5.length + 1, A6.length + 1, W0 f most wt room, mkS [] 0, most, 0, 0, 0, key, W0_ok ⟨hf0, hf1⟩ hm hw hr⟩
theorem law_true (ns : List Int) (hn : ns.length ≤ 63) : ∃ A, F_law [.scr (ns.map D.int)] [] = .ok (.bl true) A := by
  suffices h : Rk (F_law [.scr (ns.map D.int)] []) fun v _ => v = .bl true by
    obtain ⟨v, A1, e, rfl⟩ := h.ex
    exact ⟨A1, e⟩
  obtain ⟨_, A1, e1, w, g, t, x, y, rfl, hF⟩ := (world_ok ns).ex
  unfold F_law
  simp_arith [e1]
  refine for_go (R := fun rs => Rk (finR (seqR rs _)) _) (fun i e B => ∃ (o2 : Option D), e = [some (.scr (ns.map D.int)), some (.ref w), o2] ∧ Fin w g t x y i B) ⟨none, rfl, hF⟩ (fun _ _ _ _ _ => trivial) ?_ ?_
  · rintro i _ B d hd ⟨o2, rfl, k, h, W, S, most, p, q, c, iB, IB⟩
    obtain ⟨rfl, hi⟩ := rgL_get hd
    obtain ⟨B1, b1, d1, f1⟩ := draw_ok (A := B) (k := 1 + (i : Nat) * 1) (c := 0) (ns := ns) rfl (by omega)
    have i1 := iB.up0 f1
    have lt := iB.lt
    obtain ⟨_, B2, b2, rfl, k', h', W', S', most', p', q', c', i2, I2⟩ := (deed_ok i1 IB (by omega) d1 (by simp; omega)).ex
    have b3 := right_ok i2 I2 (by omega)
    simp_arith [b1, b2, b3]
    exact ⟨_, rfl, k', h', W', S', most', p', q', c', i2, I2⟩
  · rintro _ B ⟨o2, rfl, k, h, W, S, most, p, q, c, iB, IB⟩
    rw [rgL_len] at IB
    obtain ⟨_, B1, b1, rfl, k', h', W', S', most', p', q', c', i2, I2⟩ := (through_ok iB (IB.mono (by omega))).ex
    have b2 := right_ok i2 I2 (Nat.le_refl _)
    simp_arith [b1, b2]

end Kk

namespace Kk
open PySem L2 SM
open DL (op_addU op_subU op_mulA op_divU op_modU op_powU op_shlU op_shrU op_andU op_orU op_xorU op_ltU op_leU op_gtU op_geU op_isU op_notU call_lenU call_absU call_max2U call_min2U call_intU call_listU call_tupleU call_allU call_sumU call_isiA ix_U sl_U pi_seqU pe_dx pe_dx0 pe_mx pe_mx0 Dx Mx)
def topS (i : Nat) : Stmt := PySem.Challenge.pw_surewire_k70_whole_stream.main.body.getD i (.Pass ⟨0, 0, 0, 0⟩)
structure Txt (K : PySem.W.Frag) (mg : Str → Option Value) (ca : String → Addr) : Prop where
  g_Giver : mg "Giver" = some (.ref (ca "Giver"))
  g_NoData : mg "NoData" = some (.ref (ca "NoData"))
  g_NoNumber : mg "NoNumber" = some (.ref (ca "NoNumber"))
  g_NoSize : mg "NoSize" = some (.ref (ca "NoSize"))
  g_NoTick : mg "NoTick" = some (.ref (ca "NoTick"))
  g_Taker : mg "Taker" = some (.ref (ca "Taker"))
  e_NoData : PySem.W.excIn K (ca "NoData") [.type "ValueError", .type "Exception", .type "BaseException", .type "object"] "ValueError.__new__" = true
  k_NoData : PySem.W.keepIn K (.ref (ca "NoData")) = true
  b_NoData : PySem.W.subIn K (.ref (ca "NoData")) (.type "BaseException") = some true
  t_NoData : PySem.W.typeIn K (.ref (ca "NoData")) = some (.type "type")
  e_NoNumber : PySem.W.excIn K (ca "NoNumber") [.type "ValueError", .type "Exception", .type "BaseException", .type "object"] "ValueError.__new__" = true
  k_NoNumber : PySem.W.keepIn K (.ref (ca "NoNumber")) = true
  b_NoNumber : PySem.W.subIn K (.ref (ca "NoNumber")) (.type "BaseException") = some true
  t_NoNumber : PySem.W.typeIn K (.ref (ca "NoNumber")) = some (.type "type")
  e_NoSize : PySem.W.excIn K (ca "NoSize") [.type "ValueError", .type "Exception", .type "BaseException", .type "object"] "ValueError.__new__" = true
  k_NoSize : PySem.W.keepIn K (.ref (ca "NoSize")) = true
  b_NoSize : PySem.W.subIn K (.ref (ca "NoSize")) (.type "BaseException") = some true
  t_NoSize : PySem.W.typeIn K (.ref (ca "NoSize")) = some (.type "type")
  e_NoTick : PySem.W.excIn K (ca "NoTick") [.type "ValueError", .type "Exception", .type "BaseException", .type "object"] "ValueError.__new__" = true
  k_NoTick : PySem.W.keepIn K (.ref (ca "NoTick")) = true
  b_NoTick : PySem.W.subIn K (.ref (ca "NoTick")) (.type "BaseException") = some true
  t_NoTick : PySem.W.typeIn K (.ref (ca "NoTick")) = some (.type "type")
  cl_Giver : Cls K (ca "Giver")
  mk_Giver : PySem.W.makesIn K (ca "Giver") = true
  kc_Giver : PySem.W.keepIn K (.ref (ca "Giver")) = true
  n_Giver_base : PySem.W.findIn K (.ref (ca "Giver")) "base" = some none
  n_Giver_finished : PySem.W.findIn K (.ref (ca "Giver")) "finished" = some none
  n_Giver_first_wait : PySem.W.findIn K (.ref (ca "Giver")) "first_wait" = some none
  n_Giver_kept : PySem.W.findIn K (.ref (ca "Giver")) "kept" = some none
  n_Giver_most : PySem.W.findIn K (.ref (ca "Giver")) "most" = some none
  n_Giver_now : PySem.W.findIn K (.ref (ca "Giver")) "now" = some none
  n_Giver_pace : PySem.W.findIn K (.ref (ca "Giver")) "pace" = some none
  n_Giver_passed : PySem.W.findIn K (.ref (ca "Giver")) "passed" = some none
  n_Giver_reach : PySem.W.findIn K (.ref (ca "Giver")) "reach" = some none
  n_Giver_sent : PySem.W.findIn K (.ref (ca "Giver")) "sent" = some none
  n_Giver_since : PySem.W.findIn K (.ref (ca "Giver")) "since" = some none
  n_Giver_tried : PySem.W.findIn K (.ref (ca "Giver")) "tried" = some none
  n_Giver_wait : PySem.W.findIn K (.ref (ca "Giver")) "wait" = some none
  cl_Taker : Cls K (ca "Taker")
  mk_Taker : PySem.W.makesIn K (ca "Taker") = true
  kc_Taker : PySem.W.keepIn K (.ref (ca "Taker")) = true
  n_Taker_ahead : PySem.W.findIn K (.ref (ca "Taker")) "ahead" = some none
  n_Taker_over : PySem.W.findIn K (.ref (ca "Taker")) "over" = some none
  n_Taker_unread : PySem.W.findIn K (.ref (ca "Taker")) "unread" = some none
  n_Taker_wanted : PySem.W.findIn K (.ref (ca "Taker")) "wanted" = some none
  n_Taker_whole_room : PySem.W.findIn K (.ref (ca "Taker")) "whole_room" = some none
  isO : AllC (fun C => DL.InC K (ca C) ∧ btn C = false) os_
  isX : AllC (fun C => ExcC K (ca C) ∧ btn C = false) xs_
  isT : TbOk K ca tb_
  b_all : mg "all" = none
  b_bool : mg "bool" = none
  b_enumerate : mg "enumerate" = none
  b_int : mg "int" = none
  b_isinstance : mg "isinstance" = none
  b_len : mg "len" = none
  b_max : mg "max" = none
  b_min : mg "min" = none
  b_range : mg "range" = none
  b_tuple : mg "tuple" = none
  c_LEAST_SIZE : ∃ t, mg "LEAST_SIZE" = some (.int 2 t)
  c_LONGEST : ∃ t, mg "LONGEST" = some (.int 16 t)
  c_MOST_BYTE : ∃ t, mg "MOST_BYTE" = some (.int 255 t)
  c_MOST_DATA : ∃ t, mg "MOST_DATA" = some (.int 1000 t)
  c_MOST_IN_PAIR : ∃ t, mg "MOST_IN_PAIR" = some (.int 200 t)
  c_MOST_KEPT : ∃ t, mg "MOST_KEPT" = some (.int 512 t)
  c_MOST_ROOM : ∃ t, mg "MOST_ROOM" = some (.int 128 t)
  c_MOST_SIZE : ∃ t, mg "MOST_SIZE" = some (.int 4294967296 t)
  c_SIZE_givers : ∃ t, mg "SIZE_givers" = some (.int 4294967296 t)
  c_SIZE_takers : ∃ t, mg "SIZE_takers" = some (.int 4294967296 t)
  one : True
abbrev s_Giver_again : Stmt := inClass (topS 25) 7
abbrev N_Giver_again : List Str := ["self", "tick"]
theorem sc_Giver_again : FnScope N_Giver_again ["self", "tick"] (defScope s_Giver_again) := ⟨rfl, rfl, rfl, by decide +kernel, rfl, by decide +kernel, by decide +kernel⟩
theorem ok_Giver_again {P : Program} {w : World} {K : PySem.W.Frag} {mg : Str → Option Value} {base : Heap} {a : Addr} {fd : FuncData} {ca : String → Addr} (T : Txt K mg ca) (F : Fun K "again" "Giver.again" s_Giver_again a fd)  :
    FnOk P w K mg base (L2.CX P w) 1 a fd ["self", "tick"] (SpF K ca F_Giver_again) := by
  refine SM.Fn.ofF F sc_Giver_again rfl fun cdv A outer s H E hr => ?_
  have nd := sc_Giver_again.nd
  refine ⟨_, (pss_cons (ps_if (PW.pt (pw_or (pt_cmpR op_isU (pe_fld (pv 0) rfl) pe_non (nomark _)) (pw_or1 (pt_cmpR op_ltU (pe_op op_subU (pv 1) (pe_fld (pv 0) rfl)) (pe_fld (pv 0) rfl) (nomark _))))) (pss_one (ps_ret (pe_lst pa_nil))) pss_nil) (pss_cons (ps_fld (pv 0) (pe_callB (call_min2U rfl) (by rfl) T.b_min (by decide +kernel) (pa_cons (pe_op (op_mulA (K := K)) pe_int (pe_fld (pv 0) rfl)) (pa_cons (pe_op (op_mulA (K := K)) (pe_glob (v := .int 16) rfl T.c_LONGEST.choose_spec ⟨_, rfl⟩) (pe_fld (pv 0) rfl)) pa_nil))) rfl) (pss_cons (ps_fld (pv 0) (pv 1) rfl) (pss_cons (ps_fldaug (pv 0) pe_int (ia_addA (K := K))) (pss_cons (ps_fld (pv 0) (pe_fld (pv 0) rfl) rfl) (pss_one (ps_ret (pe_lst (pa_cons (pe_tup (pa_cons (pe_fld (pv 0) rfl) (pa_cons (pe_callTy (call_tupleU (K := K)) (by rfl) T.b_tuple (by decide +kernel) (pa_cons (pe_slice (sl_U (K := K)) (pe_fld (pv 0) rfl) po_none (po_some (pe_callB (call_min2U rfl) (by rfl) T.b_min (by decide +kernel) (pa_cons (pe_fld (pv 0) rfl) (pa_cons (pe_fld (pv 0) rfl) pa_nil))))) pa_nil)) pa_nil))) pa_nil))))))))), ?_⟩
  exact (ss_seq (ss_if (st_or (st_test (se_op os_is (se_fld (by decide +kernel) ⟨⟨T.cl_Giver, T.n_Giver_since⟩, trivial⟩ se_var) se_non)) (st_test (se_op os_lt (se_op os_sub se_var (se_fld (by decide +kernel) ⟨⟨T.cl_Giver, T.n_Giver_since⟩, trivial⟩ se_var)) (se_fld (by decide +kernel) ⟨⟨T.cl_Giver, T.n_Giver_wait⟩, trivial⟩ se_var)))) (ss_ret (se_lst sa_nil)) ss_next) (ss_seq (ss_fl (by decide +kernel) ⟨⟨T.cl_Giver, T.n_Giver_wait⟩, trivial⟩ se_var (se_cb cs_min2 (sa_cons (se_op os_mul se_int (se_fld (by decide +kernel) ⟨⟨T.cl_Giver, T.n_Giver_wait⟩, trivial⟩ se_var)) (sa_cons (se_op os_mul se_int (se_fld (by decide +kernel) ⟨⟨T.cl_Giver, T.n_Giver_first_wait⟩, trivial⟩ se_var)) sa_nil)))) (ss_seq (ss_fl (by decide +kernel) ⟨⟨T.cl_Giver, T.n_Giver_since⟩, trivial⟩ se_var se_var) (ss_seq (ss_flaug (by decide +kernel) ⟨⟨T.cl_Giver, T.n_Giver_tried⟩, trivial⟩ ips_add se_var se_int) (ss_seq (ss_fl (by decide +kernel) ⟨⟨T.cl_Giver, T.n_Giver_pace⟩, trivial⟩ se_var (se_fld (by decide +kernel) ⟨⟨T.cl_Giver, T.n_Giver_most⟩, trivial⟩ se_var)) (ss_ret (se_lst (sa_cons (se_tup (sa_cons (se_fld (by decide +kernel) ⟨⟨T.cl_Giver, T.n_Giver_base⟩, trivial⟩ se_var) (sa_cons (se_cb cs_tuple (sa_cons (se_sl sls_all (se_fld (by decide +kernel) ⟨⟨T.cl_Giver, T.n_Giver_kept⟩, trivial⟩ se_var) so_none (so_some (se_cb cs_min2 (sa_cons (se_fld (by decide +kernel) ⟨⟨T.cl_Giver, T.n_Giver_most⟩, trivial⟩ se_var) (sa_cons (se_fld (by decide +kernel) ⟨⟨T.cl_Giver, T.n_Giver_sent⟩, trivial⟩ se_var) sa_nil))))) sa_nil)) sa_nil))) sa_nil))))))))
abbrev s_Giver_is_counted : Stmt := inClass (topS 25) 2
abbrev N_Giver_is_counted : List Str := ["self"]
theorem sc_Giver_is_counted : FnScope N_Giver_is_counted ["self"] (defScope s_Giver_is_counted) := ⟨rfl, rfl, rfl, by decide +kernel, rfl, by decide +kernel, by decide +kernel⟩
theorem ok_Giver_is_counted {P : Program} {w : World} {K : PySem.W.Frag} {mg : Str → Option Value} {base : Heap} {a : Addr} {fd : FuncData} {ca : String → Addr} (T : Txt K mg ca) (F : Fun K "is_counted" "Giver.is_counted" s_Giver_is_counted a fd)  :
    FnOk P w K mg base (L2.CX P w) 1 a fd ["self"] (SpF K ca F_Giver_is_counted) := by
  refine SM.Fn.ofF F sc_Giver_is_counted rfl fun cdv A outer s H E hr => ?_
  have nd := sc_Giver_is_counted.nd
  refine ⟨_, (pss_one (ps_ret (pe_or (pe_cmpR op_gtU (pe_fld (pv 0) rfl) pe_int (nomark _)) (pe_one (pe_and (pe_cmpR op_gtU (pe_callB (call_lenU (K := K)) (by rfl) T.b_len (by decide +kernel) (pa_cons (pe_fld (pv 0) rfl) pa_nil)) pe_int (nomark _)) (pe_one (pe_cmpR (op_eqPK (K := K) (DL.room65 hr)) (pe_fld (pv 0) rfl) pe_int (nomark _)))))))), ?_⟩
  exact (ss_ret (se_or (se_op os_gt (se_fld (by decide +kernel) ⟨⟨T.cl_Giver, T.n_Giver_sent⟩, trivial⟩ se_var) se_int) (se_and (se_op os_gt (se_cb cs_len (sa_cons (se_fld (by decide +kernel) ⟨⟨T.cl_Giver, T.n_Giver_kept⟩, trivial⟩ se_var) sa_nil)) se_int) (se_op os_eq (se_fld (by decide +kernel) ⟨⟨T.cl_Giver, T.n_Giver_reach⟩, trivial⟩ se_var) se_int))))
abbrev s_Giver_count : Stmt := inClass (topS 25) 3
abbrev N_Giver_count : List Str := ["self", "tick"]
theorem sc_Giver_count : FnScope N_Giver_count ["self", "tick"] (defScope s_Giver_count) := ⟨rfl, rfl, rfl, by decide +kernel, rfl, by decide +kernel, by decide +kernel⟩
theorem ok_Giver_count {P : Program} {w : World} {K : PySem.W.Frag} {mg : Str → Option Value} {base : Heap} {a : Addr} {fd : FuncData} {ca : String → Addr} (T : Txt K mg ca) (F : Fun K "count" "Giver.count" s_Giver_count a fd) (M_Giver_is_counted : SM.Mt P w K mg base 1 (ca "Giver") "is_counted" (SpF K ca F_Giver_is_counted)) :
    FnOk P w K mg base (L2.CX P w) 2 a fd ["self", "tick"] (SpF K ca F_Giver_count) := by
  refine SM.Fn.ofF F sc_Giver_count rfl fun cdv A outer s H E hr => ?_
  have nd := sc_Giver_count.nd
  refine ⟨_, (pss_one (ps_if (pt_not (pt_val (pe_mtX0 M_Giver_is_counted (takes_of rfl rfl rfl rfl) hr (by decide) T.cl_Giver (pv 0)))) (pss_one (ps_fld (pv 0) pe_non rfl)) (pss_one (ps_if (pt_cmpR op_isU (pe_fld (pv 0) rfl) pe_non (nomark _)) (pss_one (ps_fld (pv 0) (pv 1) rfl)) pss_nil)))), ?_⟩
  exact (ss_if (st_not (st_b (meth_one (by decide +kernel) se_var sa_nil))) (ss_fl (by decide +kernel) ⟨⟨T.cl_Giver, T.n_Giver_since⟩, trivial⟩ se_var se_non) (ss_if (st_test (se_op os_is (se_fld (by decide +kernel) ⟨⟨T.cl_Giver, T.n_Giver_since⟩, trivial⟩ se_var) se_non)) (ss_fl (by decide +kernel) ⟨⟨T.cl_Giver, T.n_Giver_since⟩, trivial⟩ se_var se_var) ss_next))
abbrev s_is_number : Stmt := topS 24
abbrev N_is_number : List Str := ["thing", "least"]
theorem sc_is_number : FnScope N_is_number ["thing", "least"] (defScope s_is_number) := ⟨rfl, rfl, rfl, by decide +kernel, rfl, by decide +kernel, by decide +kernel⟩
theorem ok_is_number {P : Program} {w : World} {K : PySem.W.Frag} {mg : Str → Option Value} {base : Heap} {a : Addr} {fd : FuncData} {ca : String → Addr} (T : Txt K mg ca) (F : Fun K "is_number" "is_number" s_is_number a fd)  :
    FnOk P w K mg base (L2.CX P w) 1 a fd ["thing", "least"] (SpF K ca F_is_number) := by
  refine SM.Fn.ofF F sc_is_number rfl fun cdv A outer s H E hr => ?_
  have nd := sc_is_number.nd
  refine ⟨_, (pss_one (ps_ret (pe_and (pe_callB (call_isiA (K := K)) (by rfl) T.b_isinstance (by decide +kernel) (pa_cons (pv 0) (pa_cons (pe_bltn (v := .ty "int") (by rfl) T.b_int (by decide +kernel) rfl) pa_nil))) (pe_and (pe_not (pe_callB (call_isiA (K := K)) (by rfl) T.b_isinstance (by decide +kernel) (pa_cons (pv 0) (pa_cons (pe_bltn (v := .ty "bool") (by rfl) T.b_bool (by decide +kernel) rfl) pa_nil)))) (pe_one (pe_cmpR op_geU (pv 0) (pv 1) (nomark _))))))), ?_⟩
  exact (ss_ret (se_and (se_cb (cs_isi T.isO T.isX T.isT) (sa_cons se_var (sa_cons se_ty sa_nil))) (se_and (se_not (se_cb (cs_isi T.isO T.isX T.isT) (sa_cons se_var (sa_cons se_ty sa_nil)))) (se_op os_ge se_var se_var))))
abbrev s_Giver_need_tick : Stmt := inClass (topS 25) 1
abbrev N_Giver_need_tick : List Str := ["self", "tick"]
theorem sc_Giver_need_tick : FnScope N_Giver_need_tick ["self", "tick"] (defScope s_Giver_need_tick) := ⟨rfl, rfl, rfl, by decide +kernel, rfl, by decide +kernel, by decide +kernel⟩
theorem ok_Giver_need_tick {P : Program} {w : World} {K : PySem.W.Frag} {mg : Str → Option Value} {base : Heap} {a : Addr} {fd : FuncData} {ca : String → Addr} (T : Txt K mg ca) (F : Fun K "need_tick" "Giver.need_tick" s_Giver_need_tick a fd) (C_is_number : Dx P w K mg base 1 "is_number" (SpF K ca F_is_number)) :
    FnOk P w K mg base (L2.CX P w) 2 a fd ["self", "tick"] (SpF K ca F_Giver_need_tick) := by
  refine SM.Fn.ofF F sc_Giver_need_tick rfl fun cdv A outer s H E hr => ?_
  have nd := sc_Giver_need_tick.nd
  refine ⟨_, (pss_cons (ps_if (pt_not (pt_val (pe_dx C_is_number (takes_of rfl rfl rfl rfl) hr (by decide) rfl (pa_cons (pv 1) (pa_cons (pe_fld (pv 0) rfl) pa_nil))))) (pss_one (DL.ps_raiseC rfl (takes_of rfl rfl rfl rfl) (pmk_own PySem.F.excBase_ValueError T.e_NoTick T.g_NoTick T.k_NoTick (raises_own T.b_NoTick T.t_NoTick) rfl))) pss_nil) (pss_one (ps_fld (pv 0) (pv 1) rfl))), ?_⟩
  exact (ss_seq (ss_if (st_not (st_b (se_call (sa_cons se_var (sa_cons (se_fld (by decide +kernel) ⟨⟨T.cl_Giver, T.n_Giver_now⟩, trivial⟩ se_var) sa_nil))))) (ss_raise rfl) ss_next) (ss_fl (by decide +kernel) ⟨⟨T.cl_Giver, T.n_Giver_now⟩, trivial⟩ se_var se_var))
abbrev s_need_number : Stmt := topS 16
abbrev N_need_number : List Str := ["number", "size"]
theorem sc_need_number : FnScope N_need_number ["number", "size"] (defScope s_need_number) := ⟨rfl, rfl, rfl, by decide +kernel, rfl, by decide +kernel, by decide +kernel⟩
theorem ok_need_number {P : Program} {w : World} {K : PySem.W.Frag} {mg : Str → Option Value} {base : Heap} {a : Addr} {fd : FuncData} {ca : String → Addr} (T : Txt K mg ca) (F : Fun K "need_number" "need_number" s_need_number a fd)  :
    FnOk P w K mg base (L2.CX P w) 1 a fd ["number", "size"] (SpF K ca F_need_number) := by
  refine SM.Fn.ofF F sc_need_number rfl fun cdv A outer s H E hr => ?_
  have nd := sc_need_number.nd
  refine ⟨_, (pss_one (ps_if (PW.pt (pw_or (pt_not (pt_val (pe_callB (call_isiA (K := K)) (by rfl) T.b_isinstance (by decide +kernel) (pa_cons (pv 0) (pa_cons (pe_bltn (v := .ty "int") (by rfl) T.b_int (by decide +kernel) rfl) pa_nil))))) (pw_or (pt_val (pe_callB (call_isiA (K := K)) (by rfl) T.b_isinstance (by decide +kernel) (pa_cons (pv 0) (pa_cons (pe_bltn (v := .ty "bool") (by rfl) T.b_bool (by decide +kernel) rfl) pa_nil)))) (pw_or1 (pt_not (pt_chain op_leU op_ltU pe_int (pv 0) (pv 1))))))) (pss_one (DL.ps_raiseC rfl (takes_of rfl rfl rfl rfl) (pmk_own PySem.F.excBase_ValueError T.e_NoNumber T.g_NoNumber T.k_NoNumber (raises_own T.b_NoNumber T.t_NoNumber) rfl))) pss_nil)), ?_⟩
  exact (ss_if (st_or (st_not (st_b (se_cb (cs_isi T.isO T.isX T.isT) (sa_cons se_var (sa_cons se_ty sa_nil))))) (st_or (st_b (se_cb (cs_isi T.isO T.isX T.isT) (sa_cons se_var (sa_cons se_ty sa_nil)))) (st_not (st_test (se_ch os_le os_lt se_int se_var se_var))))) (ss_raise rfl) ss_next)
abbrev s_need_size : Stmt := topS 15
abbrev N_need_size : List Str := ["size"]
theorem sc_need_size : FnScope N_need_size ["size"] (defScope s_need_size) := ⟨rfl, rfl, rfl, by decide +kernel, rfl, by decide +kernel, by decide +kernel⟩
theorem ok_need_size {P : Program} {w : World} {K : PySem.W.Frag} {mg : Str → Option Value} {base : Heap} {a : Addr} {fd : FuncData} {ca : String → Addr} (T : Txt K mg ca) (F : Fun K "need_size" "need_size" s_need_size a fd)  :
    FnOk P w K mg base (L2.CX P w) 1 a fd ["size"] (SpF K ca F_need_size) := by
  refine SM.Fn.ofF F sc_need_size rfl fun cdv A outer s H E hr => ?_
  have nd := sc_need_size.nd
  refine ⟨_, (pss_one (ps_if (PW.pt (pw_or (pt_not (pt_val (pe_callB (call_isiA (K := K)) (by rfl) T.b_isinstance (by decide +kernel) (pa_cons (pv 0) (pa_cons (pe_bltn (v := .ty "int") (by rfl) T.b_int (by decide +kernel) rfl) pa_nil))))) (pw_or (pt_val (pe_callB (call_isiA (K := K)) (by rfl) T.b_isinstance (by decide +kernel) (pa_cons (pv 0) (pa_cons (pe_bltn (v := .ty "bool") (by rfl) T.b_bool (by decide +kernel) rfl) pa_nil)))) (pw_or1 (pt_not (pt_chain op_leU op_leU (pe_glob (v := .int 2) rfl T.c_LEAST_SIZE.choose_spec ⟨_, rfl⟩) (pv 0) (pe_glob (v := .int 4294967296) rfl T.c_MOST_SIZE.choose_spec ⟨_, rfl⟩))))))) (pss_one (DL.ps_raiseC rfl (takes_of rfl rfl rfl rfl) (pmk_own PySem.F.excBase_ValueError T.e_NoSize T.g_NoSize T.k_NoSize (raises_own T.b_NoSize T.t_NoSize) rfl))) pss_nil)), ?_⟩
  exact (ss_if (st_or (st_not (st_b (se_cb (cs_isi T.isO T.isX T.isT) (sa_cons se_var (sa_cons se_ty sa_nil))))) (st_or (st_b (se_cb (cs_isi T.isO T.isX T.isT) (sa_cons se_var (sa_cons se_ty sa_nil)))) (st_not (st_test (se_ch os_le os_le se_int se_var se_int))))) (ss_raise rfl) ss_next)
abbrev s_moved : Stmt := topS 17
abbrev N_moved : List Str := ["number", "by", "size"]
theorem sc_moved : FnScope N_moved ["number", "by", "size"] (defScope s_moved) := ⟨rfl, rfl, rfl, by decide +kernel, rfl, by decide +kernel, by decide +kernel⟩
theorem ok_moved {P : Program} {w : World} {K : PySem.W.Frag} {mg : Str → Option Value} {base : Heap} {a : Addr} {fd : FuncData} {ca : String → Addr} (T : Txt K mg ca) (F : Fun K "moved" "moved" s_moved a fd) (C_need_number : Dx P w K mg base 1 "need_number" (SpF K ca F_need_number)) (C_need_size : Dx P w K mg base 1 "need_size" (SpF K ca F_need_size)) :
    FnOk P w K mg base (L2.CX P w) 2 a fd ["number", "by", "size"] (SpF K ca F_moved) := by
  refine SM.Fn.ofF F sc_moved rfl fun cdv A outer s H E hr => ?_
  have nd := sc_moved.nd
  refine ⟨_, (pss_cons (ps_expr (pe_dx C_need_size (takes_of rfl rfl rfl rfl) hr (by decide) rfl (pa_cons (pv 2) pa_nil))) (pss_cons (ps_expr (pe_dx C_need_number (takes_of rfl rfl rfl rfl) hr (by decide) rfl (pa_cons (pv 0) (pa_cons (pv 2) pa_nil)))) (pss_one (ps_ret (pe_op op_modU (pe_op (op_addU (K := K)) (pv 0) (pv 1)) (pv 2)))))), ?_⟩
  exact (ss_seq (ss_drop (se_call (sa_cons se_var sa_nil))) (ss_seq (ss_drop (se_call (sa_cons se_var (sa_cons se_var sa_nil)))) (ss_ret (se_op os_mod (se_op os_add se_var se_var) se_var))))
abbrev s_Giver_next_number : Stmt := inClass (topS 25) 12
abbrev N_Giver_next_number : List Str := ["self"]
theorem sc_Giver_next_number : FnScope N_Giver_next_number ["self"] (defScope s_Giver_next_number) := ⟨rfl, rfl, rfl, by decide +kernel, rfl, by decide +kernel, by decide +kernel⟩
theorem ok_Giver_next_number {P : Program} {w : World} {K : PySem.W.Frag} {mg : Str → Option Value} {base : Heap} {a : Addr} {fd : FuncData} {ca : String → Addr} (T : Txt K mg ca) (F : Fun K "next_number" "Giver.next_number" s_Giver_next_number a fd) (C_moved : Dx P w K mg base 2 "moved" (SpF K ca F_moved)) :
    FnOk P w K mg base (L2.CX P w) 3 a fd ["self"] (SpF K ca F_Giver_next_number) := by
  refine SM.Fn.ofF F sc_Giver_next_number rfl fun cdv A outer s H E hr => ?_
  have nd := sc_Giver_next_number.nd
  refine ⟨_, (pss_one (ps_ret (pe_dx C_moved (takes_of rfl rfl rfl rfl) hr (by decide) rfl (pa_cons (pe_fld (pv 0) rfl) (pa_cons (pe_fld (pv 0) rfl) (pa_cons (pe_glob (v := .int 4294967296) rfl T.c_SIZE_givers.choose_spec ⟨_, rfl⟩) pa_nil)))))), ?_⟩
  exact (ss_ret (se_call (sa_cons (se_fld (by decide +kernel) ⟨⟨T.cl_Giver, T.n_Giver_base⟩, trivial⟩ se_var) (sa_cons (se_fld (by decide +kernel) ⟨⟨T.cl_Giver, T.n_Giver_sent⟩, trivial⟩ se_var) (sa_cons se_int sa_nil)))))
abbrev s_Giver_due : Stmt := inClass (topS 25) 8
abbrev N_Giver_due : List Str := ["self", "tick", "found", "end", "many"]
theorem sc_Giver_due : FnScope N_Giver_due ["self", "tick"] (defScope s_Giver_due) := ⟨rfl, rfl, rfl, by decide +kernel, rfl, by decide +kernel, by decide +kernel⟩
theorem ok_Giver_due {P : Program} {w : World} {K : PySem.W.Frag} {mg : Str → Option Value} {base : Heap} {a : Addr} {fd : FuncData} {ca : String → Addr} (T : Txt K mg ca) (F : Fun K "due" "Giver.due" s_Giver_due a fd) (M_Giver_again : SM.Mt P w K mg base 1 (ca "Giver") "again" (SpF K ca F_Giver_again)) (M_Giver_count : SM.Mt P w K mg base 2 (ca "Giver") "count" (SpF K ca F_Giver_count)) (M_Giver_need_tick : SM.Mt P w K mg base 2 (ca "Giver") "need_tick" (SpF K ca F_Giver_need_tick)) (M_Giver_next_number : SM.Mt P w K mg base 3 (ca "Giver") "next_number" (SpF K ca F_Giver_next_number)) :
    FnOk P w K mg base (L2.CX P w) 4 a fd ["self", "tick"] (SpF K ca F_Giver_due) := by
  refine SM.Fn.ofF F sc_Giver_due rfl fun cdv A outer s H E hr => ?_
  have nd := sc_Giver_due.nd
  refine ⟨_, (pss_cons (ps_expr (pe_mtX M_Giver_need_tick (takes_of rfl rfl rfl rfl) hr (by decide) T.cl_Giver (pv 0) (pa_cons (pv 1) pa_nil))) (pss_cons (ps_expr (pe_mtX M_Giver_count (takes_of rfl rfl rfl rfl) hr (by decide) T.cl_Giver (pv 0) (pa_cons (pv 1) pa_nil))) (pss_cons (ps_set (i := 2) nd rfl (by first | exact Or.inl rfl | exact Or.inr rfl) (pe_mtX M_Giver_again (takes_of rfl rfl rfl rfl) hr (by decide) T.cl_Giver (pv 0) (pa_cons (pv 1) pa_nil))) (pss_cons (ps_set (i := 3) nd rfl (by first | exact Or.inl rfl | exact Or.inr rfl) (pe_callB (call_min3U rfl) (by rfl) T.b_min (by decide +kernel) (pa_cons (pe_callB (call_lenU (K := K)) (by rfl) T.b_len (by decide +kernel) (pa_cons (pe_fld (pv 0) rfl) pa_nil)) (pa_cons (pe_fld (pv 0) rfl) (pa_cons (pe_fld (pv 0) rfl) pa_nil))))) (pss_cons (ps_while (passes_of rfl) (pt_cmpR op_ltU (pe_fld (pv 0) rfl) (pv 3) (nomark _)) (pss_cons (ps_set (i := 4) nd rfl (by first | exact Or.inl rfl | exact Or.inr rfl) (pe_callB (call_min2U rfl) (by rfl) T.b_min (by decide +kernel) (pa_cons (pe_fld (pv 0) rfl) (pa_cons (pe_op op_subU (pv 3) (pe_fld (pv 0) rfl)) pa_nil)))) (pss_cons (ps_expr (pe_bm PySem.F.plainAttrs_list PySem.F.slot_list_append PySem.F.type_list_append mt_append (pv 2) (pa_cons (pe_tup (pa_cons (pe_mtX0 M_Giver_next_number (takes_of rfl rfl rfl rfl) hr (by decide) T.cl_Giver (pv 0)) (pa_cons (pe_callTy (call_tupleU (K := K)) (by rfl) T.b_tuple (by decide +kernel) (pa_cons (pe_slice (sl_U (K := K)) (pe_fld (pv 0) rfl) (po_some (pe_fld (pv 0) rfl)) (po_some (pe_op (op_addU (K := K)) (pe_fld (pv 0) rfl) (pv 4)))) pa_nil)) pa_nil))) pa_nil))) (pss_one (ps_fldaug (pv 0) (pv 4) (ia_addA (K := K))))))) (pss_cons (ps_expr (pe_mtX M_Giver_count (takes_of rfl rfl rfl rfl) hr (by decide) T.cl_Giver (pv 0) (pa_cons (pv 1) pa_nil))) (pss_one (ps_ret (pv 2))))))))), ?_⟩
  exact (ss_seq (ss_drop (meth_one (by decide +kernel) se_var (sa_cons se_var sa_nil))) (ss_seq (ss_drop (meth_one (by decide +kernel) se_var (sa_cons se_var sa_nil))) (ss_seq (ss_set (meth_one (by decide +kernel) se_var (sa_cons se_var sa_nil))) (ss_seq (ss_set (se_cb cs_min3 (sa_cons (se_cb cs_len (sa_cons (se_fld (by decide +kernel) ⟨⟨T.cl_Giver, T.n_Giver_kept⟩, trivial⟩ se_var) sa_nil)) (sa_cons (se_fld (by decide +kernel) ⟨⟨T.cl_Giver, T.n_Giver_reach⟩, trivial⟩ se_var) (sa_cons (se_fld (by decide +kernel) ⟨⟨T.cl_Giver, T.n_Giver_pace⟩, trivial⟩ se_var) sa_nil))))) (ss_seq (ss_while (st_test (se_op os_lt (se_fld (by decide +kernel) ⟨⟨T.cl_Giver, T.n_Giver_sent⟩, trivial⟩ se_var) se_var)) (ss_seq (ss_set (se_cb cs_min2 (sa_cons (se_fld (by decide +kernel) ⟨⟨T.cl_Giver, T.n_Giver_most⟩, trivial⟩ se_var) (sa_cons (se_op os_sub se_var (se_fld (by decide +kernel) ⟨⟨T.cl_Giver, T.n_Giver_sent⟩, trivial⟩ se_var)) sa_nil)))) (ss_seq (ss_drop (se_bl_ ms_append se_var (sa_cons (se_tup (sa_cons (meth_one (by decide +kernel) se_var sa_nil) (sa_cons (se_cb cs_tuple (sa_cons (se_sl sls_all (se_fld (by decide +kernel) ⟨⟨T.cl_Giver, T.n_Giver_kept⟩, trivial⟩ se_var) (so_some (se_fld (by decide +kernel) ⟨⟨T.cl_Giver, T.n_Giver_sent⟩, trivial⟩ se_var)) (so_some (se_op os_add (se_fld (by decide +kernel) ⟨⟨T.cl_Giver, T.n_Giver_sent⟩, trivial⟩ se_var) se_var))) sa_nil)) sa_nil))) sa_nil))) (ss_flaug (by decide +kernel) ⟨⟨T.cl_Giver, T.n_Giver_sent⟩, trivial⟩ ips_add se_var se_var)))) (ss_seq (ss_drop (meth_one (by decide +kernel) se_var (sa_cons se_var sa_nil))) (ss_ret se_var)))))))
abbrev s_Giver_finish : Stmt := inClass (topS 25) 5
abbrev N_Giver_finish : List Str := ["self"]
theorem sc_Giver_finish : FnScope N_Giver_finish ["self"] (defScope s_Giver_finish) := ⟨rfl, rfl, rfl, by decide +kernel, rfl, by decide +kernel, by decide +kernel⟩
theorem ok_Giver_finish {P : Program} {w : World} {K : PySem.W.Frag} {mg : Str → Option Value} {base : Heap} {a : Addr} {fd : FuncData} {ca : String → Addr} (T : Txt K mg ca) (F : Fun K "finish" "Giver.finish" s_Giver_finish a fd)  :
    FnOk P w K mg base (L2.CX P w) 1 a fd ["self"] (SpF K ca F_Giver_finish) := by
  refine SM.Fn.ofF F sc_Giver_finish rfl fun cdv A outer s H E hr => ?_
  have nd := sc_Giver_finish.nd
  refine ⟨_, (pss_cons (ps_if (pt_not (pt_val (pe_fld (pv 0) rfl))) (pss_one (ps_expr (pe_bm PySem.F.plainAttrs_list PySem.F.slot_list_append PySem.F.type_list_append mt_append (pe_fld (pv 0) rfl) (pa_cons pe_str pa_nil)))) pss_nil) (pss_one (ps_fld (pv 0) pe_bl rfl))), ?_⟩
  exact (ss_seq (ss_if (st_not (st_b (se_fld (by decide +kernel) ⟨⟨T.cl_Giver, T.n_Giver_finished⟩, trivial⟩ se_var))) (ss_drop (se_bl_ ms_append (se_fld (by decide +kernel) ⟨⟨T.cl_Giver, T.n_Giver_kept⟩, trivial⟩ se_var) (sa_cons (se_strS (by decide +kernel)) sa_nil))) ss_next) (ss_fl (by decide +kernel) ⟨⟨T.cl_Giver, T.n_Giver_finished⟩, trivial⟩ se_var se_bl))
abbrev s_far : Stmt := topS 18
abbrev N_far : List Str := ["one", "other", "size"]
theorem sc_far : FnScope N_far ["one", "other", "size"] (defScope s_far) := ⟨rfl, rfl, rfl, by decide +kernel, rfl, by decide +kernel, by decide +kernel⟩
theorem ok_far {P : Program} {w : World} {K : PySem.W.Frag} {mg : Str → Option Value} {base : Heap} {a : Addr} {fd : FuncData} {ca : String → Addr} (T : Txt K mg ca) (F : Fun K "far" "far" s_far a fd) (C_need_number : Dx P w K mg base 1 "need_number" (SpF K ca F_need_number)) (C_need_size : Dx P w K mg base 1 "need_size" (SpF K ca F_need_size)) :
    FnOk P w K mg base (L2.CX P w) 2 a fd ["one", "other", "size"] (SpF K ca F_far) := by
  refine SM.Fn.ofF F sc_far rfl fun cdv A outer s H E hr => ?_
  have nd := sc_far.nd
  refine ⟨_, (pss_cons (ps_expr (pe_dx C_need_size (takes_of rfl rfl rfl rfl) hr (by decide) rfl (pa_cons (pv 2) pa_nil))) (pss_cons (ps_expr (pe_dx C_need_number (takes_of rfl rfl rfl rfl) hr (by decide) rfl (pa_cons (pv 0) (pa_cons (pv 2) pa_nil)))) (pss_cons (ps_expr (pe_dx C_need_number (takes_of rfl rfl rfl rfl) hr (by decide) rfl (pa_cons (pv 1) (pa_cons (pv 2) pa_nil)))) (pss_one (ps_ret (pe_op op_modU (pe_op op_subU (pv 1) (pv 0)) (pv 2))))))), ?_⟩
  exact (ss_seq (ss_drop (se_call (sa_cons se_var sa_nil))) (ss_seq (ss_drop (se_call (sa_cons se_var (sa_cons se_var sa_nil)))) (ss_seq (ss_drop (se_call (sa_cons se_var (sa_cons se_var sa_nil)))) (ss_ret (se_op os_mod (se_op os_sub se_var se_var) se_var)))))
abbrev s_Giver_heard : Stmt := inClass (topS 25) 6
abbrev N_Giver_heard : List Str := ["self", "answer", "room", "tick", "many"]
theorem sc_Giver_heard : FnScope N_Giver_heard ["self", "answer", "room", "tick"] (defScope s_Giver_heard) := ⟨rfl, rfl, rfl, by decide +kernel, rfl, by decide +kernel, by decide +kernel⟩
theorem ok_Giver_heard {P : Program} {w : World} {K : PySem.W.Frag} {mg : Str → Option Value} {base : Heap} {a : Addr} {fd : FuncData} {ca : String → Addr} (T : Txt K mg ca) (F : Fun K "heard" "Giver.heard" s_Giver_heard a fd) (M_Giver_count : SM.Mt P w K mg base 2 (ca "Giver") "count" (SpF K ca F_Giver_count)) (M_Giver_need_tick : SM.Mt P w K mg base 2 (ca "Giver") "need_tick" (SpF K ca F_Giver_need_tick)) (C_far : Dx P w K mg base 2 "far" (SpF K ca F_far)) :
    FnOk P w K mg base (L2.CX P w) 3 a fd ["self", "answer", "room", "tick"] (SpF K ca F_Giver_heard) := by
  refine SM.Fn.ofF F sc_Giver_heard rfl fun cdv A outer s H E hr => ?_
  have nd := sc_Giver_heard.nd
  refine ⟨_, (pss_cons (ps_expr (pe_mtX M_Giver_need_tick (takes_of rfl rfl rfl rfl) hr (by decide) T.cl_Giver (pv 0) (pa_cons (pv 3) pa_nil))) (pss_cons (ps_set (i := 4) nd rfl (by first | exact Or.inl rfl | exact Or.inr rfl) (pe_dx C_far (takes_of rfl rfl rfl rfl) hr (by decide) rfl (pa_cons (pe_fld (pv 0) rfl) (pa_cons (pv 1) (pa_cons (pe_glob (v := .int 4294967296) rfl T.c_SIZE_givers.choose_spec ⟨_, rfl⟩) pa_nil))))) (pss_cons (ps_if (pt_cmpR op_gtU (pv 4) (pe_fld (pv 0) rfl) (nomark _)) (pss_one (ps_ret pe_bl)) pss_nil) (pss_cons (ps_fld (pv 0) pe_int rfl) (pss_cons (ps_fld (pv 0) (pv 1) rfl) (pss_cons (ps_fld (pv 0) (pe_slice (sl_U (K := K)) (pe_fld (pv 0) rfl) (po_some (pv 4)) po_none) rfl) (pss_cons (ps_fldaug (pv 0) (pv 4) ia_subA) (pss_cons (ps_fldaug (pv 0) (pv 4) (ia_addA (K := K))) (pss_cons (ps_fld (pv 0) (pe_callB (call_max2U rfl) (by rfl) T.b_max (by decide +kernel) (pa_cons (pe_op op_subU (pe_fld (pv 0) rfl) (pv 4)) (pa_cons (pv 2) pa_nil))) rfl) (pss_cons (ps_if (pt_cmpR op_gtU (pv 4) pe_int (nomark _)) (pss_cons (ps_fld (pv 0) (pe_fld (pv 0) rfl) rfl) (pss_cons (ps_fld (pv 0) pe_non rfl) (pss_one (ps_fld (pv 0) (pe_callB (call_min2U rfl) (by rfl) T.b_min (by decide +kernel) (pa_cons (pe_glob (v := .int 512) rfl T.c_MOST_KEPT.choose_spec ⟨_, rfl⟩) (pa_cons (pe_op (op_addU (K := K)) (pe_fld (pv 0) rfl) (pe_fld (pv 0) rfl)) pa_nil))) rfl)))) pss_nil) (pss_cons (ps_expr (pe_mtX M_Giver_count (takes_of rfl rfl rfl rfl) hr (by decide) T.cl_Giver (pv 0) (pa_cons (pv 3) pa_nil))) (pss_one (ps_ret pe_bl))))))))))))), ?_⟩
  exact (ss_seq (ss_drop (meth_one (by decide +kernel) se_var (sa_cons se_var sa_nil))) (ss_seq (ss_set (se_call (sa_cons (se_fld (by decide +kernel) ⟨⟨T.cl_Giver, T.n_Giver_base⟩, trivial⟩ se_var) (sa_cons se_var (sa_cons se_int sa_nil))))) (ss_seq (ss_if (st_test (se_op os_gt se_var (se_fld (by decide +kernel) ⟨⟨T.cl_Giver, T.n_Giver_sent⟩, trivial⟩ se_var))) (ss_ret se_bl) ss_next) (ss_seq (ss_fl (by decide +kernel) ⟨⟨T.cl_Giver, T.n_Giver_tried⟩, trivial⟩ se_var se_int) (ss_seq (ss_fl (by decide +kernel) ⟨⟨T.cl_Giver, T.n_Giver_base⟩, trivial⟩ se_var se_var) (ss_seq (ss_fl (by decide +kernel) ⟨⟨T.cl_Giver, T.n_Giver_kept⟩, trivial⟩ se_var (se_sl sls_all (se_fld (by decide +kernel) ⟨⟨T.cl_Giver, T.n_Giver_kept⟩, trivial⟩ se_var) (so_some se_var) so_none)) (ss_seq (ss_flaug (by decide +kernel) ⟨⟨T.cl_Giver, T.n_Giver_sent⟩, trivial⟩ ips_sub se_var se_var) (ss_seq (ss_flaug (by decide +kernel) ⟨⟨T.cl_Giver, T.n_Giver_passed⟩, trivial⟩ ips_add se_var se_var) (ss_seq (ss_fl (by decide +kernel) ⟨⟨T.cl_Giver, T.n_Giver_reach⟩, trivial⟩ se_var (se_cb cs_max2 (sa_cons (se_op os_sub (se_fld (by decide +kernel) ⟨⟨T.cl_Giver, T.n_Giver_reach⟩, trivial⟩ se_var) se_var) (sa_cons se_var sa_nil)))) (ss_seq (ss_if (st_test (se_op os_gt se_var se_int)) (ss_seq (ss_fl (by decide +kernel) ⟨⟨T.cl_Giver, T.n_Giver_wait⟩, trivial⟩ se_var (se_fld (by decide +kernel) ⟨⟨T.cl_Giver, T.n_Giver_first_wait⟩, trivial⟩ se_var)) (ss_seq (ss_fl (by decide +kernel) ⟨⟨T.cl_Giver, T.n_Giver_since⟩, trivial⟩ se_var se_non) (ss_fl (by decide +kernel) ⟨⟨T.cl_Giver, T.n_Giver_pace⟩, trivial⟩ se_var (se_cb cs_min2 (sa_cons se_int (sa_cons (se_op os_add (se_fld (by decide +kernel) ⟨⟨T.cl_Giver, T.n_Giver_pace⟩, trivial⟩ se_var) (se_fld (by decide +kernel) ⟨⟨T.cl_Giver, T.n_Giver_most⟩, trivial⟩ se_var)) sa_nil)))))) ss_next) (ss_seq (ss_drop (meth_one (by decide +kernel) se_var (sa_cons se_var sa_nil))) (ss_ret se_bl))))))))))))
abbrev s_is_whole : Stmt := topS 10
abbrev N_is_whole : List Str := ["thing", "least", "most"]
theorem sc_is_whole : FnScope N_is_whole ["thing", "least", "most"] (defScope s_is_whole) := ⟨rfl, rfl, rfl, by decide +kernel, rfl, by decide +kernel, by decide +kernel⟩
theorem ok_is_whole {P : Program} {w : World} {K : PySem.W.Frag} {mg : Str → Option Value} {base : Heap} {a : Addr} {fd : FuncData} {ca : String → Addr} (T : Txt K mg ca) (F : Fun K "is_whole" "is_whole" s_is_whole a fd)  :
    FnOk P w K mg base (L2.CX P w) 1 a fd ["thing", "least", "most"] (SpF K ca F_is_whole) := by
  refine SM.Fn.ofF F sc_is_whole rfl fun cdv A outer s H E hr => ?_
  have nd := sc_is_whole.nd
  refine ⟨_, (pss_one (ps_ret (pe_and (pe_callB (call_isiA (K := K)) (by rfl) T.b_isinstance (by decide +kernel) (pa_cons (pv 0) (pa_cons (pe_bltn (v := .ty "int") (by rfl) T.b_int (by decide +kernel) rfl) pa_nil))) (pe_and (pe_not (pe_callB (call_isiA (K := K)) (by rfl) T.b_isinstance (by decide +kernel) (pa_cons (pv 0) (pa_cons (pe_bltn (v := .ty "bool") (by rfl) T.b_bool (by decide +kernel) rfl) pa_nil)))) (pe_one (pe_chain op_leU op_leU (pv 1) (pv 0) (pv 2))))))), ?_⟩
  exact (ss_ret (se_and (se_cb (cs_isi T.isO T.isX T.isT) (sa_cons se_var (sa_cons se_ty sa_nil))) (se_and (se_not (se_cb (cs_isi T.isO T.isX T.isT) (sa_cons se_var (sa_cons se_ty sa_nil)))) (se_ch os_le os_le se_var se_var se_var))))
abbrev s_is_data : Stmt := topS 11
abbrev N_is_data : List Str := ["thing", "byte"]
theorem sc_is_data : FnScope N_is_data ["thing"] (defScope s_is_data) := ⟨rfl, rfl, rfl, by decide +kernel, rfl, by decide +kernel, by decide +kernel⟩
theorem ok_is_data {P : Program} {w : World} {K : PySem.W.Frag} {mg : Str → Option Value} {base : Heap} {a : Addr} {fd : FuncData} {ca : String → Addr} (T : Txt K mg ca) (F : Fun K "is_data" "is_data" s_is_data a fd) (C_is_whole : Dx P w K mg base 1 "is_whole" (SpF K ca F_is_whole)) :
    FnOk P w K mg base (L2.CX P w) 2 a fd ["thing"] (SpF K ca F_is_data) := by
  refine SM.Fn.ofF F sc_is_data rfl fun cdv A outer s H E hr => ?_
  have nd := sc_is_data.nd
  refine ⟨_, (pss_cons (ps_if (PW.pt (pw_or (pt_not (pt_val (pe_callB (call_isiA (K := K)) (by rfl) T.b_isinstance (by decide +kernel) (pa_cons (pv 0) (pa_cons (pe_bltn (v := .ty "tuple") (by rfl) T.b_tuple (by decide +kernel) rfl) pa_nil))))) (pw_or1 (pt_cmpR op_gtU (pe_callB (call_lenU (K := K)) (by rfl) T.b_len (by decide +kernel) (pa_cons (pv 0) pa_nil)) (pe_glob (v := .int 1000) rfl T.c_MOST_DATA.choose_spec ⟨_, rfl⟩) (nomark _))))) (pss_one (ps_ret pe_bl)) pss_nil) (pss_one (ps_ret (pe_callB (call_allU (K := K) rfl) (by rfl) T.b_all (by decide +kernel) (pa_cons (pe_lc (own := [("byte", 1)]) (g := (gName 1)) rfl nd (pi_seqU (K := K) (pv 0)) (blkOk_by (own := [("byte", 1)]) (N := N_is_data) (sc := defScope s_is_data) (by decide +kernel)) (fun _ _ _ _ _ => (pg_name (i := 1) nd rfl (by first | exact Or.inl rfl | exact Or.inr rfl))) (fun _ _ _ _ _ => pts_nil) (fun _ _ _ _ _ => (pe_dx0 C_is_whole hr (by decide) rfl (pa_cons (pv 1) (pa_cons pe_int (pa_cons (pe_glob (v := .int 255) rfl T.c_MOST_BYTE.choose_spec ⟨_, rfl⟩) pa_nil)))))) pa_nil))))), ?_⟩
  exact (ss_seq (ss_if (st_or (st_not (st_b (se_cb (cs_isi T.isO T.isX T.isT) (sa_cons se_var (sa_cons se_ty sa_nil))))) (st_test (se_op os_gt (se_cb cs_len (sa_cons se_var sa_nil)) se_int))) (ss_ret se_bl) ss_next) (ss_ret (se_cb cs_all (sa_cons (se_lc (W2 := fun _ _ _ _ => False) (sw_seq se_var) sg_name (by decide) st_yes (se_call0 (sa_cons se_var (sa_cons se_int (sa_cons se_int sa_nil))))) sa_nil))))
abbrev s_Giver_write : Stmt := inClass (topS 25) 4
abbrev N_Giver_write : List Str := ["self", "data", "many", "item"]
theorem sc_Giver_write : FnScope N_Giver_write ["self", "data"] (defScope s_Giver_write) := ⟨rfl, rfl, rfl, by decide +kernel, rfl, by decide +kernel, by decide +kernel⟩
theorem ok_Giver_write {P : Program} {w : World} {K : PySem.W.Frag} {mg : Str → Option Value} {base : Heap} {a : Addr} {fd : FuncData} {ca : String → Addr} (T : Txt K mg ca) (F : Fun K "write" "Giver.write" s_Giver_write a fd) (C_is_data : Dx P w K mg base 2 "is_data" (SpF K ca F_is_data)) :
    FnOk P w K mg base (L2.CX P w) 3 a fd ["self", "data"] (SpF K ca F_Giver_write) := by
  refine SM.Fn.ofF F sc_Giver_write rfl fun cdv A outer s H E hr => ?_
  have nd := sc_Giver_write.nd
  refine ⟨_, (pss_cons (ps_if (pt_not (pt_val (pe_dx C_is_data (takes_of rfl rfl rfl rfl) hr (by decide) rfl (pa_cons (pv 1) pa_nil)))) (pss_one (DL.ps_raiseC rfl (takes_of rfl rfl rfl rfl) (pmk_own PySem.F.excBase_ValueError T.e_NoData T.g_NoData T.k_NoData (raises_own T.b_NoData T.t_NoData) rfl))) pss_nil) (pss_cons (ps_if (pt_val (pe_fld (pv 0) rfl)) (pss_one (ps_ret pe_int)) pss_nil) (pss_cons (ps_set (i := 2) nd rfl (by first | exact Or.inl rfl | exact Or.inr rfl) (pe_callB (call_min2U rfl) (by rfl) T.b_min (by decide +kernel) (pa_cons (pe_callB (call_lenU (K := K)) (by rfl) T.b_len (by decide +kernel) (pa_cons (pv 1) pa_nil)) (pa_cons (pe_op op_subU (pe_glob (v := .int 512) rfl T.c_MOST_KEPT.choose_spec ⟨_, rfl⟩) (pe_callB (call_lenU (K := K)) (by rfl) T.b_len (by decide +kernel) (pa_cons (pe_lc (own := [("item", 3)]) (g := (gName 3)) rfl nd (pi_seqU (K := K) (pe_fld (pv 0) rfl)) (blkOk_by (own := [("item", 3)]) (N := N_Giver_write) (sc := defScope s_Giver_write) (by decide +kernel)) (fun _ _ _ _ _ => (pg_name (i := 3) nd rfl (by first | exact Or.inl rfl | exact Or.inr rfl))) (fun _ _ _ _ _ => (pts_one (pt_cmpR (op_nePK (K := K) (DL.room65 hr)) (pv 3) pe_str (nomark _)))) (fun _ _ _ _ _ => (pv 3))) pa_nil))) pa_nil)))) (pss_cons (ps_expr (pe_bm PySem.F.plainAttrs_list PySem.F.slot_list_extend PySem.F.type_list_extend (L2.MtR.or mt_extend mt_extT) (pe_fld (pv 0) rfl) (pa_cons (pe_slice (sl_U (K := K)) (pv 1) po_none (po_some (pv 2))) pa_nil))) (pss_one (ps_ret (pv 2))))))), ?_⟩
  exact (ss_seq (ss_if (st_not (st_b (se_call (sa_cons se_var sa_nil)))) (ss_raise rfl) ss_next) (ss_seq (ss_if (st_b (se_fld (by decide +kernel) ⟨⟨T.cl_Giver, T.n_Giver_finished⟩, trivial⟩ se_var)) (ss_ret se_int) ss_next) (ss_seq (ss_set (se_cb cs_min2 (sa_cons (se_cb cs_len (sa_cons se_var sa_nil)) (sa_cons (se_op os_sub se_int (se_cb cs_len (sa_cons (se_lc (W2 := fun _ _ _ _ => False) (sw_seq (se_fld (by decide +kernel) ⟨⟨T.cl_Giver, T.n_Giver_kept⟩, trivial⟩ se_var)) sg_name (by decide) (st_test (se_op os_ne se_var (se_strS (by decide +kernel)))) se_var) sa_nil))) sa_nil)))) (ss_seq (ss_drop (se_bl_ ms_extend (se_fld (by decide +kernel) ⟨⟨T.cl_Giver, T.n_Giver_kept⟩, trivial⟩ se_var) (sa_cons (se_sl sls_all se_var so_none (so_some se_var)) sa_nil))) (ss_ret se_var)))))
abbrev s_is_within : Stmt := topS 29
abbrev N_is_within : List Str := ["thing", "least", "most"]
theorem sc_is_within : FnScope N_is_within ["thing", "least", "most"] (defScope s_is_within) := ⟨rfl, rfl, rfl, by decide +kernel, rfl, by decide +kernel, by decide +kernel⟩
theorem ok_is_within {P : Program} {w : World} {K : PySem.W.Frag} {mg : Str → Option Value} {base : Heap} {a : Addr} {fd : FuncData} {ca : String → Addr} (T : Txt K mg ca) (F : Fun K "is_within" "is_within" s_is_within a fd)  :
    FnOk P w K mg base (L2.CX P w) 1 a fd ["thing", "least", "most"] (SpF K ca F_is_within) := by
  refine SM.Fn.ofF F sc_is_within rfl fun cdv A outer s H E hr => ?_
  have nd := sc_is_within.nd
  refine ⟨_, (pss_one (ps_ret (pe_and (pe_callB (call_isiA (K := K)) (by rfl) T.b_isinstance (by decide +kernel) (pa_cons (pv 0) (pa_cons (pe_bltn (v := .ty "int") (by rfl) T.b_int (by decide +kernel) rfl) pa_nil))) (pe_and (pe_not (pe_callB (call_isiA (K := K)) (by rfl) T.b_isinstance (by decide +kernel) (pa_cons (pv 0) (pa_cons (pe_bltn (v := .ty "bool") (by rfl) T.b_bool (by decide +kernel) rfl) pa_nil)))) (pe_one (pe_chain op_leU op_leU (pv 1) (pv 0) (pv 2))))))), ?_⟩
  exact (ss_ret (se_and (se_cb (cs_isi T.isO T.isX T.isT) (sa_cons se_var (sa_cons se_ty sa_nil))) (se_and (se_not (se_cb (cs_isi T.isO T.isX T.isT) (sa_cons se_var (sa_cons se_ty sa_nil)))) (se_ch os_le os_le se_var se_var se_var))))
abbrev s_Taker_read : Stmt := inClass (topS 30) 5
abbrev N_Taker_read : List Str := ["self", "many", "found"]
theorem sc_Taker_read : FnScope N_Taker_read ["self", "many"] (defScope s_Taker_read) := ⟨rfl, rfl, rfl, by decide +kernel, rfl, by decide +kernel, by decide +kernel⟩
theorem ok_Taker_read {P : Program} {w : World} {K : PySem.W.Frag} {mg : Str → Option Value} {base : Heap} {a : Addr} {fd : FuncData} {ca : String → Addr} (T : Txt K mg ca) (F : Fun K "read" "Taker.read" s_Taker_read a fd) (C_is_within : Dx P w K mg base 1 "is_within" (SpF K ca F_is_within)) :
    FnOk P w K mg base (L2.CX P w) 2 a fd ["self", "many"] (SpF K ca F_Taker_read) := by
  refine SM.Fn.ofF F sc_Taker_read rfl fun cdv A outer s H E hr => ?_
  have nd := sc_Taker_read.nd
  refine ⟨_, (pss_cons (ps_if (pt_not (pt_val (pe_dx C_is_within (takes_of rfl rfl rfl rfl) hr (by decide) rfl (pa_cons (pv 1) (pa_cons pe_int (pa_cons (pv 1) pa_nil)))))) (pss_one (DL.ps_raiseC rfl (takes_of rfl rfl rfl rfl) (pmk_own PySem.F.excBase_ValueError T.e_NoNumber T.g_NoNumber T.k_NoNumber (raises_own T.b_NoNumber T.t_NoNumber) rfl))) pss_nil) (pss_cons (ps_set (i := 2) nd rfl (by first | exact Or.inl rfl | exact Or.inr rfl) (pe_slice (sl_U (K := K)) (pe_fld (pv 0) rfl) po_none (po_some (pv 1)))) (pss_cons (ps_fld (pv 0) (pe_slice (sl_U (K := K)) (pe_fld (pv 0) rfl) (po_some (pv 1)) po_none) rfl) (pss_one (ps_ret (pv 2)))))), ?_⟩
  exact (ss_seq (ss_if (st_not (st_b (se_call (sa_cons se_var (sa_cons se_int (sa_cons se_var sa_nil)))))) (ss_raise rfl) ss_next) (ss_seq (ss_set (se_sl sls_all (se_fld (by decide +kernel) ⟨⟨T.cl_Taker, T.n_Taker_unread⟩, trivial⟩ se_var) so_none (so_some se_var))) (ss_seq (ss_fl (by decide +kernel) ⟨⟨T.cl_Taker, T.n_Taker_unread⟩, trivial⟩ se_var (se_sl sls_all (se_fld (by decide +kernel) ⟨⟨T.cl_Taker, T.n_Taker_unread⟩, trivial⟩ se_var) (so_some se_var) so_none)) (ss_ret se_var))))
abbrev s_Taker_come_ready : Stmt := inClass (topS 30) 3
abbrev N_Taker_come_ready : List Str := ["self", "item"]
theorem sc_Taker_come_ready : FnScope N_Taker_come_ready ["self", "item"] (defScope s_Taker_come_ready) := ⟨rfl, rfl, rfl, by decide +kernel, rfl, by decide +kernel, by decide +kernel⟩
theorem ok_Taker_come_ready {P : Program} {w : World} {K : PySem.W.Frag} {mg : Str → Option Value} {base : Heap} {a : Addr} {fd : FuncData} {ca : String → Addr} (T : Txt K mg ca) (F : Fun K "come_ready" "Taker.come_ready" s_Taker_come_ready a fd) (C_moved : Dx P w K mg base 2 "moved" (SpF K ca F_moved)) :
    FnOk P w K mg base (L2.CX P w) 3 a fd ["self", "item"] (SpF K ca F_Taker_come_ready) := by
  refine SM.Fn.ofF F sc_Taker_come_ready rfl fun cdv A outer s H E hr => ?_
  have nd := sc_Taker_come_ready.nd
  refine ⟨_, (pss_cons (ps_fld (pv 0) (pe_dx C_moved (takes_of rfl rfl rfl rfl) hr (by decide) rfl (pa_cons (pe_fld (pv 0) rfl) (pa_cons pe_int (pa_cons (pe_glob (v := .int 4294967296) rfl T.c_SIZE_takers.choose_spec ⟨_, rfl⟩) pa_nil)))) rfl) (pss_one (ps_if (pt_cmpR (op_eqPK (K := K) (DL.room65 hr)) (pv 1) pe_str (nomark _)) (pss_cons (ps_fld (pv 0) pe_bl rfl) (pss_one (ps_fld (pv 0) pe_dnewK rfl))) (pss_one (ps_if (pt_cmpR (op_nePK (K := K) (DL.room65 hr)) (pv 1) pe_str (nomark _)) (pss_one (ps_fld (pv 0) (pe_op (op_addU (K := K)) (pe_fld (pv 0) rfl) (pe_tup (pa_cons (pv 1) pa_nil))) rfl)) pss_nil))))), ?_⟩
  exact (ss_seq (ss_fl (by decide +kernel) ⟨⟨T.cl_Taker, T.n_Taker_wanted⟩, trivial⟩ se_var (se_call (sa_cons (se_fld (by decide +kernel) ⟨⟨T.cl_Taker, T.n_Taker_wanted⟩, trivial⟩ se_var) (sa_cons se_int (sa_cons se_int sa_nil))))) (ss_if (st_test (se_op os_eq se_var (se_strS (by decide +kernel)))) (ss_seq (ss_fl (by decide +kernel) ⟨⟨T.cl_Taker, T.n_Taker_over⟩, trivial⟩ se_var se_bl) (ss_fl (by decide +kernel) ⟨⟨T.cl_Taker, T.n_Taker_ahead⟩, trivial⟩ se_var se_dnewK)) (ss_if (st_test (se_op os_ne se_var (se_strS (by decide +kernel)))) (ss_fl (by decide +kernel) ⟨⟨T.cl_Taker, T.n_Taker_unread⟩, trivial⟩ se_var (se_op os_add (se_fld (by decide +kernel) ⟨⟨T.cl_Taker, T.n_Taker_unread⟩, trivial⟩ se_var) (se_tup (sa_cons se_var sa_nil)))) ss_next)))
abbrev s_Taker_free : Stmt := inClass (topS 30) 1
abbrev N_Taker_free : List Str := ["self"]
theorem sc_Taker_free : FnScope N_Taker_free ["self"] (defScope s_Taker_free) := ⟨rfl, rfl, rfl, by decide +kernel, rfl, by decide +kernel, by decide +kernel⟩
theorem ok_Taker_free {P : Program} {w : World} {K : PySem.W.Frag} {mg : Str → Option Value} {base : Heap} {a : Addr} {fd : FuncData} {ca : String → Addr} (T : Txt K mg ca) (F : Fun K "free" "Taker.free" s_Taker_free a fd)  :
    FnOk P w K mg base (L2.CX P w) 1 a fd ["self"] (SpF K ca F_Taker_free) := by
  refine SM.Fn.ofF F sc_Taker_free rfl fun cdv A outer s H E hr => ?_
  have nd := sc_Taker_free.nd
  refine ⟨_, (pss_one (ps_ret (pe_op op_subU (pe_fld (pv 0) rfl) (pe_callB (call_lenU (K := K)) (by rfl) T.b_len (by decide +kernel) (pa_cons (pe_fld (pv 0) rfl) pa_nil))))), ?_⟩
  exact (ss_ret (se_op os_sub (se_fld (by decide +kernel) ⟨⟨T.cl_Taker, T.n_Taker_whole_room⟩, trivial⟩ se_var) (se_cb cs_len (sa_cons (se_fld (by decide +kernel) ⟨⟨T.cl_Taker, T.n_Taker_unread⟩, trivial⟩ se_var) sa_nil))))
abbrev s_Taker_wants : Stmt := inClass (topS 30) 4
abbrev N_Taker_wants : List Str := ["self"]
theorem sc_Taker_wants : FnScope N_Taker_wants ["self"] (defScope s_Taker_wants) := ⟨rfl, rfl, rfl, by decide +kernel, rfl, by decide +kernel, by decide +kernel⟩
theorem ok_Taker_wants {P : Program} {w : World} {K : PySem.W.Frag} {mg : Str → Option Value} {base : Heap} {a : Addr} {fd : FuncData} {ca : String → Addr} (T : Txt K mg ca) (F : Fun K "wants" "Taker.wants" s_Taker_wants a fd) (M_Taker_free : SM.Mt P w K mg base 1 (ca "Taker") "free" (SpF K ca F_Taker_free)) :
    FnOk P w K mg base (L2.CX P w) 2 a fd ["self"] (SpF K ca F_Taker_wants) := by
  refine SM.Fn.ofF F sc_Taker_wants rfl fun cdv A outer s H E hr => ?_
  have nd := sc_Taker_wants.nd
  refine ⟨_, (pss_one (ps_ret (pe_tup (pa_cons (pe_fld (pv 0) rfl) (pa_cons (pe_mtX0 M_Taker_free (takes_of rfl rfl rfl rfl) hr (by decide) T.cl_Taker (pv 0)) pa_nil))))), ?_⟩
  exact (ss_ret (se_tup (sa_cons (se_fld (by decide +kernel) ⟨⟨T.cl_Taker, T.n_Taker_wanted⟩, trivial⟩ se_var) (sa_cons (meth_one (by decide +kernel) se_var sa_nil) sa_nil))))
abbrev s_Taker_take : Stmt := inClass (topS 30) 2
abbrev N_Taker_take : List Str := ["self", "number", "items", "wanted", "free", "step", "item", "place"]
theorem sc_Taker_take : FnScope N_Taker_take ["self", "number", "items"] (defScope s_Taker_take) := ⟨rfl, rfl, rfl, by decide +kernel, rfl, by decide +kernel, by decide +kernel⟩
theorem ok_Taker_take {P : Program} {w : World} {K : PySem.W.Frag} {mg : Str → Option Value} {base : Heap} {a : Addr} {fd : FuncData} {ca : String → Addr} (T : Txt K mg ca) (F : Fun K "take" "Taker.take" s_Taker_take a fd) (M_Taker_come_ready : SM.Mt P w K mg base 3 (ca "Taker") "come_ready" (SpF K ca F_Taker_come_ready)) (M_Taker_wants : SM.Mt P w K mg base 2 (ca "Taker") "wants" (SpF K ca F_Taker_wants)) (C_far : Dx P w K mg base 2 "far" (SpF K ca F_far)) (C_moved : Dx P w K mg base 2 "moved" (SpF K ca F_moved)) :
    FnOk P w K mg base (L2.CX P w) 4 a fd ["self", "number", "items"] (SpF K ca F_Taker_take) := by
  refine SM.Fn.ofF F sc_Taker_take rfl fun cdv A outer s H E hr => ?_
  have nd := sc_Taker_take.nd
  refine ⟨_, (pss_cons (ps_if (pt_val (pe_fld (pv 0) rfl)) (pss_one ps_retN) pss_nil) (pss_cons (ps_asg (pe_mtX0 M_Taker_wants (takes_of rfl rfl rfl rfl) hr (by decide) T.cl_Taker (pv 0)) (pg_tup rfl (pgs_cons (pg_name (i := 3) nd rfl (by first | exact Or.inl rfl | exact Or.inr rfl)) (pgs_cons (pg_name (i := 4) nd rfl (by first | exact Or.inl rfl | exact Or.inr rfl)) pgs_nil)))) (pss_cons (ps_for (passes_of rfl) rfl (pi_enumA (by rfl) T.b_enumerate (pa_cons (pv 2) pa_nil)) (pg_tup rfl (pgs_cons (pg_name (i := 5) nd rfl (by first | exact Or.inl rfl | exact Or.inr rfl)) (pgs_cons (pg_name (i := 6) nd rfl (by first | exact Or.inl rfl | exact Or.inr rfl)) pgs_nil))) (pss_cons (ps_set (i := 7) nd rfl (by first | exact Or.inl rfl | exact Or.inr rfl) (pe_dx C_moved (takes_of rfl rfl rfl rfl) hr (by decide) rfl (pa_cons (pv 1) (pa_cons (pv 5) (pa_cons (pe_glob (v := .int 4294967296) rfl T.c_SIZE_takers.choose_spec ⟨_, rfl⟩) pa_nil))))) (pss_one (ps_if (PW.pt (pw_and (pt_cmpR op_ltU (pe_dx C_far (takes_of rfl rfl rfl rfl) hr (by decide) rfl (pa_cons (pv 3) (pa_cons (pv 7) (pa_cons (pe_glob (v := .int 4294967296) rfl T.c_SIZE_takers.choose_spec ⟨_, rfl⟩) pa_nil)))) (pv 4) (nomark _)) (pw_and1 (pt_cmpR (op_notInAll (K := K) (DL.room65 hr)) (pv 7) (pe_fld (pv 0) rfl) rfl)))) (pss_one (PS.or (ps_asg (pv 6) (pg_sub (pe_fld (pv 0) rfl) (pv 7) set_list)) (ps_dput (DL.room65w hr) (pe_fld (pv 0) rfl) (pv 7) (pv 6) rfl))) pss_nil)))) (pss_one (ps_while (passes_of rfl) (PW.pt (pw_and (pt_cmpR (op_inAll (K := K) (DL.room65 hr)) (pe_fld (pv 0) rfl) (pe_fld (pv 0) rfl) rfl) (pw_and1 (pt_not (pt_val (pe_fld (pv 0) rfl)))))) (pss_one (ps_expr (pe_mtX M_Taker_come_ready (takes_of rfl rfl rfl rfl) hr (by decide) T.cl_Taker (pv 0) (pa_cons (PE.or (pe_dpop1 (pe_fld (pv 0) rfl) (pe_fld (pv 0) rfl) ⟨rfl, rfl, rfl, rfl⟩) (pe_bm PySem.F.plainAttrs_list PySem.F.slot_list_pop PySem.F.type_list_pop mt_popAt (pe_fld (pv 0) rfl) (pa_cons (pe_fld (pv 0) rfl) pa_nil))) pa_nil))))))))), ?_⟩
  exact (ss_seq (ss_if (st_b (se_fld (by decide +kernel) ⟨⟨T.cl_Taker, T.n_Taker_over⟩, trivial⟩ se_var)) ss_retn ss_next) (ss_seq (ss_asg (meth_one (by decide +kernel) se_var sa_nil) (sg_tup (sgs_cons sg_name (sgs_cons sg_name sgs_nil)) rfl)) (ss_seq (ss_for (sw_enumA se_var) (sg_tup (sgs_cons sg_name (sgs_cons sg_name sgs_nil)) rfl) (ss_seq (ss_set (se_call (sa_cons se_var (sa_cons se_var (sa_cons se_int sa_nil))))) (ss_if (st_and (st_test (se_op os_lt (se_call (sa_cons se_var (sa_cons se_var (sa_cons se_int sa_nil)))) se_var)) (st_test (se_op os_notin se_var (se_fld (by decide +kernel) ⟨⟨T.cl_Taker, T.n_Taker_ahead⟩, trivial⟩ se_var)))) (ss_put (se_fld (by decide +kernel) ⟨⟨T.cl_Taker, T.n_Taker_ahead⟩, trivial⟩ se_var) se_var se_var) ss_next))) (ss_while (st_and (st_test (se_op os_in (se_fld (by decide +kernel) ⟨⟨T.cl_Taker, T.n_Taker_wanted⟩, trivial⟩ se_var) (se_fld (by decide +kernel) ⟨⟨T.cl_Taker, T.n_Taker_ahead⟩, trivial⟩ se_var))) (st_not (st_b (se_fld (by decide +kernel) ⟨⟨T.cl_Taker, T.n_Taker_over⟩, trivial⟩ se_var)))) (ss_drop (meth_one (by decide +kernel) se_var (sa_cons (se_pop1 (se_fld (by decide +kernel) ⟨⟨T.cl_Taker, T.n_Taker_ahead⟩, trivial⟩ se_var) (se_fld (by decide +kernel) ⟨⟨T.cl_Taker, T.n_Taker_wanted⟩, trivial⟩ se_var)) sa_nil)))))))
abbrev s_l_brought : Stmt := topS 39
abbrev N_l_brought : List Str := ["_law_world_here", "_law_thing_here"]
theorem sc_l_brought : FnScope N_l_brought ["_law_world_here", "_law_thing_here"] (defScope s_l_brought) := ⟨rfl, rfl, rfl, by decide +kernel, rfl, by decide +kernel, by decide +kernel⟩
theorem ok_l_brought {P : Program} {w : World} {K : PySem.W.Frag} {mg : Str → Option Value} {base : Heap} {a : Addr} {fd : FuncData} {ca : String → Addr} (T : Txt K mg ca) (F : Fun K "_law_brought" "_law_brought" s_l_brought a fd) (M_Taker_take : SM.Mt P w K mg base 4 (ca "Taker") "take" (SpF K ca F_Taker_take)) (M_Taker_wants : SM.Mt P w K mg base 2 (ca "Taker") "wants" (SpF K ca F_Taker_wants)) :
    FnOk P w K mg base (L2.CX P w) 5 a fd ["_law_world_here", "_law_thing_here"] (SpF K ca F_l_brought) := by
  refine SM.Fn.ofF F sc_l_brought rfl fun cdv A outer s H E hr => ?_
  have nd := sc_l_brought.nd
  refine ⟨_, (pss_one (ps_if (pt_cmpR op_notU (pv 1) pe_non (nomark _)) (pss_cons (ps_expr (pe_mtX M_Taker_take (takes_of rfl rfl rfl rfl) hr (by decide) T.cl_Taker (pe_dgetO (DL.room65 hr) (pv 0) pe_str (fun _ _ => rfl)) (pa_cons (pe_ix (ix_U (K := K)) (pv 1) pe_int (fun _ _ => rfl)) (pa_cons (pe_ix (ix_U (K := K)) (pv 1) pe_int (fun _ _ => rfl)) pa_nil)))) (pss_one (ps_expr (pe_bm PySem.F.plainAttrs_list PySem.F.slot_list_append PySem.F.type_list_append mt_append (pe_dgetO (DL.room65 hr) (pv 0) pe_str (fun _ _ => rfl)) (pa_cons (pe_mtX0 M_Taker_wants (takes_of rfl rfl rfl rfl) hr (by decide) T.cl_Taker (pe_dgetO (DL.room65 hr) (pv 0) pe_str (fun _ _ => rfl))) pa_nil))))) pss_nil)), ?_⟩
  exact (ss_if (st_test (se_op os_isnot se_var se_non)) (ss_seq (ss_drop (meth_one (by decide +kernel) (se_op os_dget se_var (se_strS (by decide +kernel))) (sa_cons (se_op os_ix se_var se_int) (sa_cons (se_op os_ix se_var se_int) sa_nil)))) (ss_drop (se_bl_ ms_append (se_op os_dget se_var (se_strS (by decide +kernel))) (sa_cons (meth_one (by decide +kernel) (se_op os_dget se_var (se_strS (by decide +kernel))) sa_nil) sa_nil)))) ss_next)
abbrev s_l_mixed : Stmt := topS 32
abbrev N_l_mixed : List Str := ["_law_cell", "_law_k", "_law_mix"]
theorem sc_l_mixed : FnScope N_l_mixed ["_law_cell", "_law_k"] (defScope s_l_mixed) := ⟨rfl, rfl, rfl, by decide +kernel, rfl, by decide +kernel, by decide +kernel⟩
theorem ok_l_mixed {P : Program} {w : World} {K : PySem.W.Frag} {mg : Str → Option Value} {base : Heap} {a : Addr} {fd : FuncData} {ca : String → Addr} (T : Txt K mg ca) (F : Fun K "_law_mixed" "_law_mixed" s_l_mixed a fd)  :
    FnOk P w K mg base (L2.CX P w) 1 a fd ["_law_cell", "_law_k"] (SpF K ca F_l_mixed) := by
  refine SM.Fn.ofF F sc_l_mixed rfl fun cdv A outer s H E hr => ?_
  have nd := sc_l_mixed.nd
  refine ⟨_, (pss_cons (ps_set (i := 2) nd rfl (by first | exact Or.inl rfl | exact Or.inr rfl) (pe_op op_modU (pe_op (op_mulA (K := K)) (pe_op (op_addU (K := K)) (pe_op (op_addU (K := K)) (pv 0) (pe_op (op_mulA (K := K)) pe_int (pv 1))) pe_int) pe_int) pe_int)) (pss_one (ps_ret (pe_op op_modU (pe_op (op_addU (K := K)) (pe_op (op_mulA (K := K)) (pv 2) (pv 2)) (pe_op (op_mulA (K := K)) pe_int (pv 2))) pe_int)))), ?_⟩
  exact (ss_seq (ss_set (se_op os_mod (se_op os_mul (se_op os_add (se_op os_add se_var (se_op os_mul se_int se_var)) se_int) se_int) se_int)) (ss_ret (se_op os_mod (se_op os_add (se_op os_mul se_var se_var) (se_op os_mul se_int se_var)) se_int)))
abbrev s_l_next : Stmt := topS 34
abbrev N_l_next : List Str := ["_law_draw_here", "_law_size", "_law_digit"]
theorem sc_l_next : FnScope N_l_next ["_law_draw_here", "_law_size"] (defScope s_l_next) := ⟨rfl, rfl, rfl, by decide +kernel, rfl, by decide +kernel, by decide +kernel⟩
theorem ok_l_next {P : Program} {w : World} {K : PySem.W.Frag} {mg : Str → Option Value} {base : Heap} {a : Addr} {fd : FuncData} {ca : String → Addr} (T : Txt K mg ca) (F : Fun K "_law_next" "_law_next" s_l_next a fd) (C_l_mixed : Dx P w K mg base 1 "_law_mixed" (SpF K ca F_l_mixed)) :
    FnOk P w K mg base (L2.CX P w) 2 a fd ["_law_draw_here", "_law_size"] (SpF K ca F_l_next) := by
  refine SM.Fn.ofF F sc_l_next rfl fun cdv A outer s H E hr => ?_
  have nd := sc_l_next.nd
  refine ⟨_, (pss_cons (ps_if (PW.pt (pw_and (pt_cmpR op_ltU (pe_ix (ix_U (K := K)) (pv 0) pe_int (fun _ _ => rfl)) pe_int (nomark _)) (pw_and1 (pt_cmpR op_gtU (pe_ix (ix_U (K := K)) (pv 0) pe_int (fun _ _ => rfl)) pe_int (nomark _))))) (pss_cons (ps_set (i := 2) nd rfl (by first | exact Or.inl rfl | exact Or.inr rfl) (pe_op op_modU (pe_ix (ix_U (K := K)) (pv 0) pe_int (fun _ _ => rfl)) (pv 1))) (pss_cons (PS.or (ps_asg (pe_op op_divU (pe_ix (ix_U (K := K)) (pv 0) pe_int (fun _ _ => rfl)) (pv 1)) (pg_sub (pv 0) pe_int set_list)) (ps_dput (DL.room65w hr) (pv 0) pe_int (pe_op op_divU (pe_ix (ix_U (K := K)) (pv 0) pe_int (fun _ _ => rfl)) (pv 1)) rfl)) (pss_one (ps_ret (pv 2))))) pss_nil) (pss_cons (ps_if (pt_cmpR op_ltU (pe_ix (ix_U (K := K)) (pv 0) pe_int (fun _ _ => rfl)) pe_int (nomark _)) (pss_cons (PS.or (ps_asg (pe_ix (ix_U (K := K)) (pv 0) pe_int (fun _ _ => rfl)) (pg_sub (pv 0) pe_int set_list)) (ps_dput (DL.room65w hr) (pv 0) pe_int (pe_ix (ix_U (K := K)) (pv 0) pe_int (fun _ _ => rfl)) rfl)) (pss_one (PS.or (ps_asg (pe_ix (ix_U (K := K)) (pv 0) pe_int (fun _ _ => rfl)) (pg_sub (pv 0) pe_int set_list)) (ps_dput (DL.room65w hr) (pv 0) pe_int (pe_ix (ix_U (K := K)) (pv 0) pe_int (fun _ _ => rfl)) rfl)))) pss_nil) (pss_cons (ps_augS (pv 0) pe_int (L2.get_listK (K := K)) pe_int (ip_addA (K := K)) set_list) (pss_one (ps_ret (pe_op op_modU (pe_op op_divU (pe_dx C_l_mixed (takes_of rfl rfl rfl rfl) hr (by decide) rfl (pa_cons (pe_ix (ix_U (K := K)) (pv 0) pe_int (fun _ _ => rfl)) (pa_cons (pe_ix (ix_U (K := K)) (pv 0) pe_int (fun _ _ => rfl)) pa_nil))) pe_int) (pv 1))))))), ?_⟩
  exact (ss_seq (ss_if (st_and (st_test (se_op os_lt (se_op os_ix se_var se_int) se_int)) (st_test (se_op os_gt (se_op os_ix se_var se_int) se_int))) (ss_seq (ss_set (se_op os_mod (se_op os_ix se_var se_int) se_var)) (ss_seq (ss_put se_var se_int (se_op os_div (se_op os_ix se_var se_int) se_var)) (ss_ret se_var))) ss_next) (ss_seq (ss_if (st_test (se_op os_lt (se_op os_ix se_var se_int) se_int)) (ss_seq (ss_put se_var se_int (se_op os_ix se_var se_int)) (ss_put se_var se_int (se_op os_ix se_var se_int))) ss_next) (ss_seq (ss_laug ips_add se_var se_int se_int) (ss_ret (se_op os_mod (se_op os_div (se_call (sa_cons (se_op os_ix se_var se_int) (sa_cons (se_op os_ix se_var se_int) sa_nil))) se_int) se_var)))))
abbrev s_l_pick : Stmt := topS 35
abbrev N_l_pick : List Str := ["_law_draw_here", "_law_some"]
theorem sc_l_pick : FnScope N_l_pick ["_law_draw_here", "_law_some"] (defScope s_l_pick) := ⟨rfl, rfl, rfl, by decide +kernel, rfl, by decide +kernel, by decide +kernel⟩
theorem ok_l_pick {P : Program} {w : World} {K : PySem.W.Frag} {mg : Str → Option Value} {base : Heap} {a : Addr} {fd : FuncData} {ca : String → Addr} (T : Txt K mg ca) (F : Fun K "_law_pick" "_law_pick" s_l_pick a fd) (C_l_next : Dx P w K mg base 2 "_law_next" (SpF K ca F_l_next)) :
    FnOk P w K mg base (L2.CX P w) 3 a fd ["_law_draw_here", "_law_some"] (SpF K ca F_l_pick) := by
  refine SM.Fn.ofF F sc_l_pick rfl fun cdv A outer s H E hr => ?_
  have nd := sc_l_pick.nd
  refine ⟨_, (pss_one (ps_ret (pe_ix (ix_U (K := K)) (pv 1) (pe_dx C_l_next (takes_of rfl rfl rfl rfl) hr (by decide) rfl (pa_cons (pv 0) (pa_cons (pe_callB (call_lenU (K := K)) (by rfl) T.b_len (by decide +kernel) (pa_cons (pv 1) pa_nil)) pa_nil))) (fun _ _ => rfl)))), ?_⟩
  exact (ss_ret (se_op os_ix se_var (se_call (sa_cons se_var (sa_cons (se_cb cs_len (sa_cons se_var sa_nil)) sa_nil)))))
abbrev s_l_thing : Stmt := topS 38
abbrev N_l_thing : List Str := ["_law_draw_here", "_law_road", "_law_at", "_law_thing_here"]
theorem sc_l_thing : FnScope N_l_thing ["_law_draw_here", "_law_road"] (defScope s_l_thing) := ⟨rfl, rfl, rfl, by decide +kernel, rfl, by decide +kernel, by decide +kernel⟩
theorem ok_l_thing {P : Program} {w : World} {K : PySem.W.Frag} {mg : Str → Option Value} {base : Heap} {a : Addr} {fd : FuncData} {ca : String → Addr} (T : Txt K mg ca) (F : Fun K "_law_thing" "_law_thing" s_l_thing a fd) (C_l_next : Dx P w K mg base 2 "_law_next" (SpF K ca F_l_next)) :
    FnOk P w K mg base (L2.CX P w) 3 a fd ["_law_draw_here", "_law_road"] (SpF K ca F_l_thing) := by
  refine SM.Fn.ofF F sc_l_thing rfl fun cdv A outer s H E hr => ?_
  have nd := sc_l_thing.nd
  refine ⟨_, (pss_cons (ps_if (pt_cmpR (op_eqPK (K := K) (DL.room65 hr)) (pv 1) (pe_lst pa_nil) (nomark _)) (pss_one (ps_ret pe_non)) pss_nil) (pss_cons (ps_set (i := 2) nd rfl (by first | exact Or.inl rfl | exact Or.inr rfl) (pe_dx C_l_next (takes_of rfl rfl rfl rfl) hr (by decide) rfl (pa_cons (pv 0) (pa_cons (pe_callB (call_lenU (K := K)) (by rfl) T.b_len (by decide +kernel) (pa_cons (pv 1) pa_nil)) pa_nil)))) (pss_cons (ps_set (i := 3) nd rfl (by first | exact Or.inl rfl | exact Or.inr rfl) (pe_ix (ix_U (K := K)) (pv 1) (pv 2) (fun _ _ => rfl))) (pss_cons (ps_if (pt_cmpR op_gtU (pe_dx C_l_next (takes_of rfl rfl rfl rfl) hr (by decide) rfl (pa_cons (pv 0) (pa_cons pe_int pa_nil))) pe_int (nomark _)) (pss_one (ps_expr (PE.or (pe_dpop1 (pv 1) (pv 2) ⟨rfl, rfl, rfl, rfl⟩) (pe_bm PySem.F.plainAttrs_list PySem.F.slot_list_pop PySem.F.type_list_pop mt_popAt (pv 1) (pa_cons (pv 2) pa_nil))))) pss_nil) (pss_one (ps_ret (pv 3))))))), ?_⟩
  exact (ss_seq (ss_if (st_test (se_op os_eq se_var (se_lst sa_nil))) (ss_ret se_non) ss_next) (ss_seq (ss_set (se_call (sa_cons se_var (sa_cons (se_cb cs_len (sa_cons se_var sa_nil)) sa_nil)))) (ss_seq (ss_set (se_op os_ix se_var se_var)) (ss_seq (ss_if (st_test (se_op os_gt (se_call (sa_cons se_var (sa_cons se_int sa_nil))) se_int)) (ss_drop (se_pop1 se_var se_var)) ss_next) (ss_ret se_var)))))
abbrev s_l_deed : Stmt := topS 40
abbrev N_l_deed : List Str := ["_law_world_here", "_law_draw_here", "_law_kind", "_law_size", "_law_data", "_law_k", "_law_many", "_law_road", "_law_answer"]
theorem sc_l_deed : FnScope N_l_deed ["_law_world_here", "_law_draw_here"] (defScope s_l_deed) := ⟨rfl, rfl, rfl, by decide +kernel, rfl, by decide +kernel, by decide +kernel⟩
theorem ok_l_deed {P : Program} {w : World} {K : PySem.W.Frag} {mg : Str → Option Value} {base : Heap} {a : Addr} {fd : FuncData} {ca : String → Addr} (T : Txt K mg ca) (F : Fun K "_law_deed" "_law_deed" s_l_deed a fd) (M_Giver_due : SM.Mt P w K mg base 4 (ca "Giver") "due" (SpF K ca F_Giver_due)) (M_Giver_finish : SM.Mt P w K mg base 1 (ca "Giver") "finish" (SpF K ca F_Giver_finish)) (M_Giver_heard : SM.Mt P w K mg base 3 (ca "Giver") "heard" (SpF K ca F_Giver_heard)) (M_Giver_write : SM.Mt P w K mg base 3 (ca "Giver") "write" (SpF K ca F_Giver_write)) (M_Taker_read : SM.Mt P w K mg base 2 (ca "Taker") "read" (SpF K ca F_Taker_read)) (C_l_brought : Dx P w K mg base 5 "_law_brought" (SpF K ca F_l_brought)) (C_l_next : Dx P w K mg base 2 "_law_next" (SpF K ca F_l_next)) (C_l_pick : Dx P w K mg base 3 "_law_pick" (SpF K ca F_l_pick)) (C_l_thing : Dx P w K mg base 3 "_law_thing" (SpF K ca F_l_thing)) :
    FnOk P w K mg base (L2.CX P w) 6 a fd ["_law_world_here", "_law_draw_here"] (SpF K ca F_l_deed) := by
  refine SM.Fn.ofF F sc_l_deed rfl fun cdv A outer s H E hr => ?_
  have nd := sc_l_deed.nd
  refine ⟨_, (pss_cons (ps_set (i := 2) nd rfl (by first | exact Or.inl rfl | exact Or.inr rfl) (pe_dx C_l_pick (takes_of rfl rfl rfl rfl) hr (by decide) rfl (pa_cons (pv 1) (pa_cons (pe_lst (pa_cons pe_int (pa_cons pe_int (pa_cons pe_int (pa_cons pe_int (pa_cons pe_int (pa_cons pe_int (pa_cons pe_int (pa_cons pe_int (pa_cons pe_int (pa_cons pe_int (pa_cons pe_int (pa_cons pe_int pa_nil))))))))))))) pa_nil)))) (pss_cons (ps_if (pt_cmpR (op_eqPK (K := K) (DL.room65 hr)) (pv 2) pe_int (nomark _)) (pss_cons (ps_set (i := 3) nd rfl (by first | exact Or.inl rfl | exact Or.inr rfl) (pe_dx C_l_pick (takes_of rfl rfl rfl rfl) hr (by decide) rfl (pa_cons (pv 1) (pa_cons (pe_lst (pa_cons pe_int (pa_cons pe_int (pa_cons pe_int (pa_cons pe_int (pa_cons pe_int (pa_cons pe_int pa_nil))))))) pa_nil)))) (pss_cons (ps_set (i := 4) nd rfl (by first | exact Or.inl rfl | exact Or.inr rfl) (pe_callTy (call_tupleU (K := K)) (by rfl) T.b_tuple (by decide +kernel) (pa_cons (pe_lc (own := [("_law_k", 5)]) (g := (gName 5)) rfl nd (pi_range1 rfl T.b_range (pa_cons (pv 3) pa_nil)) (blkOk_by (own := [("_law_k", 5)]) (N := N_l_deed) (sc := defScope s_l_deed) (by decide +kernel)) (fun _ _ _ _ _ => (pg_name (i := 5) nd rfl (by first | exact Or.inl rfl | exact Or.inr rfl))) (fun _ _ _ _ _ => pts_nil) (fun _ _ _ _ _ => (pe_dx0 C_l_next hr (by decide) rfl (pa_cons (pv 1) (pa_cons pe_int pa_nil))))) pa_nil))) (pss_cons (ps_set (i := 6) nd rfl (by first | exact Or.inl rfl | exact Or.inr rfl) (pe_mtX M_Giver_write (takes_of rfl rfl rfl rfl) hr (by decide) T.cl_Giver (pe_dgetO (DL.room65 hr) (pv 0) pe_str (fun _ _ => rfl)) (pa_cons (pv 4) pa_nil))) (pss_cons (ps_if (PW.pt (pw_or (pt_not (pt_chain op_leU op_leU pe_int (pv 6) (pv 3))) (pw_or1 (PW.pt (pw_and (pt_cmpR op_gtU (pe_dgetO (DL.room65 hr) (pv 0) pe_str (fun _ _ => rfl)) pe_int (nomark _)) (pw_and1 (pt_cmpR op_gtU (pv 6) pe_int (nomark _)))))))) (pss_one (ps_ret pe_bl)) pss_nil) (pss_one (PS.or (ps_asg (pe_op (op_addU (K := K)) (pe_dgetO (DL.room65 hr) (pv 0) pe_str (fun _ _ => rfl)) (pe_slice (sl_U (K := K)) (pv 4) po_none (po_some (pv 6)))) (pg_sub (pv 0) pe_str set_list)) (ps_dput (DL.room65w hr) (pv 0) pe_str (pe_op (op_addU (K := K)) (pe_dgetO (DL.room65 hr) (pv 0) pe_str (fun _ _ => rfl)) (pe_slice (sl_U (K := K)) (pv 4) po_none (po_some (pv 6)))) rfl))))))) (pss_one (ps_if (pt_cmpR (op_eqPK (K := K) (DL.room65 hr)) (pv 2) pe_int (nomark _)) (pss_one (ps_expr (pe_bm PySem.F.plainAttrs_list PySem.F.slot_list_extend PySem.F.type_list_extend (L2.MtR.or mt_extend mt_extT) (pe_dgetO (DL.room65 hr) (pv 0) pe_str (fun _ _ => rfl)) (pa_cons (pe_mtX M_Giver_due (takes_of rfl rfl rfl rfl) hr (by decide) T.cl_Giver (pe_dgetO (DL.room65 hr) (pv 0) pe_str (fun _ _ => rfl)) (pa_cons (pe_dgetO (DL.room65 hr) (pv 0) pe_str (fun _ _ => rfl)) pa_nil)) pa_nil)))) (pss_one (ps_if (pt_cmpR (op_eqPK (K := K) (DL.room65 hr)) (pv 2) pe_int (nomark _)) (pss_one (ps_expr (pe_dx C_l_brought (takes_of rfl rfl rfl rfl) hr (by decide) rfl (pa_cons (pv 0) (pa_cons (pe_dx C_l_thing (takes_of rfl rfl rfl rfl) hr (by decide) rfl (pa_cons (pv 1) (pa_cons (pe_dgetO (DL.room65 hr) (pv 0) pe_str (fun _ _ => rfl)) pa_nil))) pa_nil))))) (pss_one (ps_if (pt_cmpR (op_eqPK (K := K) (DL.room65 hr)) (pv 2) pe_int (nomark _)) (pss_cons (ps_set (i := 7) nd rfl (by first | exact Or.inl rfl | exact Or.inr rfl) (pe_ix (ix_U (K := K)) (pe_lst (pa_cons (pe_dgetO (DL.room65 hr) (pv 0) pe_str (fun _ _ => rfl)) (pa_cons (pe_dgetO (DL.room65 hr) (pv 0) pe_str (fun _ _ => rfl)) pa_nil))) (pe_dx C_l_next (takes_of rfl rfl rfl rfl) hr (by decide) rfl (pa_cons (pv 1) (pa_cons pe_int pa_nil))) (fun _ _ => rfl))) (pss_one (ps_if (pt_cmpR (op_nePK (K := K) (DL.room65 hr)) (pv 7) (pe_lst pa_nil) (nomark _)) (pss_one (ps_expr (PE.or (pe_dpop1 (pv 7) (pe_dx C_l_next (takes_of rfl rfl rfl rfl) hr (by decide) rfl (pa_cons (pv 1) (pa_cons (pe_callB (call_lenU (K := K)) (by rfl) T.b_len (by decide +kernel) (pa_cons (pv 7) pa_nil)) pa_nil))) ⟨rfl, rfl, rfl, rfl⟩) (pe_bm PySem.F.plainAttrs_list PySem.F.slot_list_pop PySem.F.type_list_pop mt_popAt (pv 7) (pa_cons (pe_dx C_l_next (takes_of rfl rfl rfl rfl) hr (by decide) rfl (pa_cons (pv 1) (pa_cons (pe_callB (call_lenU (K := K)) (by rfl) T.b_len (by decide +kernel) (pa_cons (pv 7) pa_nil)) pa_nil))) pa_nil))))) pss_nil))) (pss_one (ps_if (pt_cmpR (op_eqPK (K := K) (DL.room65 hr)) (pv 2) pe_int (nomark _)) (pss_cons (ps_set (i := 8) nd rfl (by first | exact Or.inl rfl | exact Or.inr rfl) (pe_dx C_l_thing (takes_of rfl rfl rfl rfl) hr (by decide) rfl (pa_cons (pv 1) (pa_cons (pe_dgetO (DL.room65 hr) (pv 0) pe_str (fun _ _ => rfl)) pa_nil)))) (pss_one (ps_if (pt_cmpR op_notU (pv 8) pe_non (nomark _)) (pss_one (ps_expr (pe_mtX M_Giver_heard (takes_of rfl rfl rfl rfl) hr (by decide) T.cl_Giver (pe_dgetO (DL.room65 hr) (pv 0) pe_str (fun _ _ => rfl)) (pa_cons (pe_ix (ix_U (K := K)) (pv 8) pe_int (fun _ _ => rfl)) (pa_cons (pe_ix (ix_U (K := K)) (pv 8) pe_int (fun _ _ => rfl)) (pa_cons (pe_dgetO (DL.room65 hr) (pv 0) pe_str (fun _ _ => rfl)) pa_nil)))))) pss_nil))) (pss_one (ps_if (pt_cmpR (op_eqPK (K := K) (DL.room65 hr)) (pv 2) pe_int (nomark _)) (pss_one (PS.or (ps_asg (pe_op (op_addU (K := K)) (pe_dgetO (DL.room65 hr) (pv 0) pe_str (fun _ _ => rfl)) (pe_mtX M_Taker_read (takes_of rfl rfl rfl rfl) hr (by decide) T.cl_Taker (pe_dgetO (DL.room65 hr) (pv 0) pe_str (fun _ _ => rfl)) (pa_cons (pe_dx C_l_pick (takes_of rfl rfl rfl rfl) hr (by decide) rfl (pa_cons (pv 1) (pa_cons (pe_lst (pa_cons pe_int (pa_cons pe_int (pa_cons pe_int (pa_cons pe_int pa_nil))))) pa_nil))) pa_nil))) (pg_sub (pv 0) pe_str set_list)) (ps_dput (DL.room65w hr) (pv 0) pe_str (pe_op (op_addU (K := K)) (pe_dgetO (DL.room65 hr) (pv 0) pe_str (fun _ _ => rfl)) (pe_mtX M_Taker_read (takes_of rfl rfl rfl rfl) hr (by decide) T.cl_Taker (pe_dgetO (DL.room65 hr) (pv 0) pe_str (fun _ _ => rfl)) (pa_cons (pe_dx C_l_pick (takes_of rfl rfl rfl rfl) hr (by decide) rfl (pa_cons (pv 1) (pa_cons (pe_lst (pa_cons pe_int (pa_cons pe_int (pa_cons pe_int (pa_cons pe_int pa_nil))))) pa_nil))) pa_nil))) rfl))) (pss_one (ps_if (pt_cmpR (op_eqPK (K := K) (DL.room65 hr)) (pv 2) pe_int (nomark _)) (pss_one (ps_daug (DL.room65w hr) (pv 0) pe_str (pe_dx C_l_pick (takes_of rfl rfl rfl rfl) hr (by decide) rfl (pa_cons (pv 1) (pa_cons (pe_lst (pa_cons pe_int (pa_cons pe_int (pa_cons pe_int (pa_cons pe_int pa_nil))))) pa_nil))) (ia_addA (K := K)) (fun _ _ _ => rfl))) (pss_one (ps_if (pt_cmpR (op_eqPK (K := K) (DL.room65 hr)) (pe_dx C_l_next (takes_of rfl rfl rfl rfl) hr (by decide) rfl (pa_cons (pv 1) (pa_cons pe_int pa_nil))) pe_int (nomark _)) (pss_cons (ps_expr (pe_mtX0 M_Giver_finish (takes_of rfl rfl rfl rfl) hr (by decide) T.cl_Giver (pe_dgetO (DL.room65 hr) (pv 0) pe_str (fun _ _ => rfl)))) (pss_one (PS.or (ps_asg pe_int (pg_sub (pv 0) pe_str set_list)) (ps_dput (DL.room65w hr) (pv 0) pe_str pe_int rfl)))) pss_nil))))))))))))))) (pss_one (ps_ret pe_bl)))), ?_⟩
  exact (ss_seq (ss_set (se_call (sa_cons se_var (sa_cons (se_lst (sa_cons se_int (sa_cons se_int (sa_cons se_int (sa_cons se_int (sa_cons se_int (sa_cons se_int (sa_cons se_int (sa_cons se_int (sa_cons se_int (sa_cons se_int (sa_cons se_int (sa_cons se_int sa_nil))))))))))))) sa_nil)))) (ss_seq (ss_if (st_test (se_op os_eq se_var se_int)) (ss_seq (ss_set (se_call (sa_cons se_var (sa_cons (se_lst (sa_cons se_int (sa_cons se_int (sa_cons se_int (sa_cons se_int (sa_cons se_int (sa_cons se_int sa_nil))))))) sa_nil)))) (ss_seq (ss_set (se_cb cs_tuple (sa_cons (se_lc (W2 := fun _ _ _ _ => False) (sw_r1 (sa_cons se_var sa_nil)) sg_name (by decide) st_yes (se_call0 (sa_cons se_var (sa_cons se_int sa_nil)))) sa_nil))) (ss_seq (ss_set (meth_one (by decide +kernel) (se_op os_dget se_var (se_strS (by decide +kernel))) (sa_cons se_var sa_nil))) (ss_seq (ss_if (st_or (st_not (st_test (se_ch os_le os_le se_int se_var se_var))) (st_and (st_test (se_op os_gt (se_op os_dget se_var (se_strS (by decide +kernel))) se_int)) (st_test (se_op os_gt se_var se_int)))) (ss_ret se_bl) ss_next) (ss_put se_var (se_strS (by decide +kernel)) (se_op os_add (se_op os_dget se_var (se_strS (by decide +kernel))) (se_sl sls_all se_var so_none (so_some se_var)))))))) (ss_if (st_test (se_op os_eq se_var se_int)) (ss_drop (se_bl_ ms_extend (se_op os_dget se_var (se_strS (by decide +kernel))) (sa_cons (meth_one (by decide +kernel) (se_op os_dget se_var (se_strS (by decide +kernel))) (sa_cons (se_op os_dget se_var (se_strS (by decide +kernel))) sa_nil)) sa_nil))) (ss_if (st_test (se_op os_eq se_var se_int)) (ss_drop (se_call (sa_cons se_var (sa_cons (se_call (sa_cons se_var (sa_cons (se_op os_dget se_var (se_strS (by decide +kernel))) sa_nil))) sa_nil)))) (ss_if (st_test (se_op os_eq se_var se_int)) (ss_seq (ss_set (se_op os_ix (se_lst (sa_cons (se_op os_dget se_var (se_strS (by decide +kernel))) (sa_cons (se_op os_dget se_var (se_strS (by decide +kernel))) sa_nil))) (se_call (sa_cons se_var (sa_cons se_int sa_nil))))) (ss_if (st_test (se_op os_ne se_var (se_lst sa_nil))) (ss_drop (se_pop1 se_var (se_call (sa_cons se_var (sa_cons (se_cb cs_len (sa_cons se_var sa_nil)) sa_nil))))) ss_next)) (ss_if (st_test (se_op os_eq se_var se_int)) (ss_seq (ss_set (se_call (sa_cons se_var (sa_cons (se_op os_dget se_var (se_strS (by decide +kernel))) sa_nil)))) (ss_if (st_test (se_op os_isnot se_var se_non)) (ss_drop (meth_one (by decide +kernel) (se_op os_dget se_var (se_strS (by decide +kernel))) (sa_cons (se_op os_ix se_var se_int) (sa_cons (se_op os_ix se_var se_int) (sa_cons (se_op os_dget se_var (se_strS (by decide +kernel))) sa_nil))))) ss_next)) (ss_if (st_test (se_op os_eq se_var se_int)) (ss_put se_var (se_strS (by decide +kernel)) (se_op os_add (se_op os_dget se_var (se_strS (by decide +kernel))) (meth_one (by decide +kernel) (se_op os_dget se_var (se_strS (by decide +kernel))) (sa_cons (se_call (sa_cons se_var (sa_cons (se_lst (sa_cons se_int (sa_cons se_int (sa_cons se_int (sa_cons se_int sa_nil))))) sa_nil))) sa_nil)))) (ss_if (st_test (se_op os_eq se_var se_int)) (ss_daug ips_add se_var (se_strS (by decide +kernel)) (se_call (sa_cons se_var (sa_cons (se_lst (sa_cons se_int (sa_cons se_int (sa_cons se_int (sa_cons se_int sa_nil))))) sa_nil)))) (ss_if (st_test (se_op os_eq (se_call (sa_cons se_var (sa_cons se_int sa_nil))) se_int)) (ss_seq (ss_drop (meth_one (by decide +kernel) (se_op os_dget se_var (se_strS (by decide +kernel))) sa_nil)) (ss_put se_var (se_strS (by decide +kernel)) se_int)) ss_next)))))))) (ss_ret se_bl)))
abbrev s_l_draw : Stmt := topS 33
abbrev N_l_draw : List Str := ["_law_script", "_law_k", "_law_count", "_law_cell", "_law_mixed_here"]
theorem sc_l_draw : FnScope N_l_draw ["_law_script", "_law_k", "_law_count"] (defScope s_l_draw) := ⟨rfl, rfl, rfl, by decide +kernel, rfl, by decide +kernel, by decide +kernel⟩
theorem ok_l_draw {P : Program} {w : World} {K : PySem.W.Frag} {mg : Str → Option Value} {base : Heap} {a : Addr} {fd : FuncData} {ca : String → Addr} (T : Txt K mg ca) (F : Fun K "_law_draw" "_law_draw" s_l_draw a fd) (C_l_mixed : Dx P w K mg base 1 "_law_mixed" (SpF K ca F_l_mixed)) :
    FnOk P w K mg base (L2.CX P w) 2 a fd ["_law_script", "_law_k", "_law_count"] (SpF K ca F_l_draw) := by
  refine SM.Fn.ofF F sc_l_draw rfl fun cdv A outer s H E hr => ?_
  have nd := sc_l_draw.nd
  refine ⟨_, (pss_cons (ps_set (i := 3) nd rfl (by first | exact Or.inl rfl | exact Or.inr rfl) pe_int) (pss_cons (ps_if (pt_cmpR op_ltU (pv 1) (pe_callB (call_lenU (K := K)) (by rfl) T.b_len (by decide +kernel) (pa_cons (pv 0) pa_nil)) (nomark _)) (pss_one (ps_set (i := 3) nd rfl (by first | exact Or.inl rfl | exact Or.inr rfl) (pe_ix (ix_U (K := K)) (pv 0) (pv 1) (fun _ _ => rfl)))) pss_nil) (pss_cons (ps_set (i := 4) nd rfl (by first | exact Or.inl rfl | exact Or.inr rfl) (pe_dx C_l_mixed (takes_of rfl rfl rfl rfl) hr (by decide) rfl (pa_cons (pv 3) (pa_cons (pe_op (op_addU (K := K)) pe_int (pv 1)) pa_nil)))) (pss_cons (ps_if (pt_cmpR (op_eqPK (K := K) (DL.room65 hr)) (pe_op op_modU (pv 3) pe_int) pe_int (nomark _)) (pss_one (ps_ret (pe_lst (pa_cons (pe_op op_divU (pv 3) pe_int) (pa_cons (pe_un un_neg pe_int) (pa_cons (pv 4) (pa_cons (pv 2) pa_nil))))))) pss_nil) (pss_one (ps_ret (pe_lst (pa_cons (pv 4) (pa_cons (pv 2) (pa_cons (pv 4) (pa_cons (pv 2) pa_nil))))))))))), ?_⟩
  exact (ss_seq (ss_set se_int) (ss_seq (ss_if (st_test (se_op os_lt se_var (se_cb cs_len (sa_cons se_var sa_nil)))) (ss_set (se_op os_ix se_var se_var)) ss_next) (ss_seq (ss_set (se_call (sa_cons se_var (sa_cons (se_op os_add se_int se_var) sa_nil)))) (ss_seq (ss_if (st_test (se_op os_eq (se_op os_mod se_var se_int) se_int)) (ss_ret (se_lst (sa_cons (se_op os_div se_var se_int) (sa_cons (se_un us_neg se_int) (sa_cons se_var (sa_cons se_var sa_nil)))))) ss_next) (ss_ret (se_lst (sa_cons se_var (sa_cons se_var (sa_cons se_var (sa_cons se_var sa_nil))))))))))
abbrev s_Giver_answered : Stmt := inClass (topS 25) 11
abbrev N_Giver_answered : List Str := ["self"]
theorem sc_Giver_answered : FnScope N_Giver_answered ["self"] (defScope s_Giver_answered) := ⟨rfl, rfl, rfl, by decide +kernel, rfl, by decide +kernel, by decide +kernel⟩
theorem ok_Giver_answered {P : Program} {w : World} {K : PySem.W.Frag} {mg : Str → Option Value} {base : Heap} {a : Addr} {fd : FuncData} {ca : String → Addr} (T : Txt K mg ca) (F : Fun K "answered" "Giver.answered" s_Giver_answered a fd)  :
    FnOk P w K mg base (L2.CX P w) 1 a fd ["self"] (SpF K ca F_Giver_answered) := by
  refine SM.Fn.ofF F sc_Giver_answered rfl fun cdv A outer s H E hr => ?_
  have nd := sc_Giver_answered.nd
  refine ⟨_, (pss_one (ps_ret (pe_fld (pv 0) rfl))), ?_⟩
  exact (ss_ret (se_fld (by decide +kernel) ⟨⟨T.cl_Giver, T.n_Giver_passed⟩, trivial⟩ se_var))
abbrev s_Giver_left : Stmt := inClass (topS 25) 10
abbrev N_Giver_left : List Str := ["self"]
theorem sc_Giver_left : FnScope N_Giver_left ["self"] (defScope s_Giver_left) := ⟨rfl, rfl, rfl, by decide +kernel, rfl, by decide +kernel, by decide +kernel⟩
theorem ok_Giver_left {P : Program} {w : World} {K : PySem.W.Frag} {mg : Str → Option Value} {base : Heap} {a : Addr} {fd : FuncData} {ca : String → Addr} (T : Txt K mg ca) (F : Fun K "left" "Giver.left" s_Giver_left a fd)  :
    FnOk P w K mg base (L2.CX P w) 1 a fd ["self"] (SpF K ca F_Giver_left) := by
  refine SM.Fn.ofF F sc_Giver_left rfl fun cdv A outer s H E hr => ?_
  have nd := sc_Giver_left.nd
  refine ⟨_, (pss_one (ps_ret (pe_callB (call_lenU (K := K)) (by rfl) T.b_len (by decide +kernel) (pa_cons (pe_fld (pv 0) rfl) pa_nil)))), ?_⟩
  exact (ss_ret (se_cb cs_len (sa_cons (se_fld (by decide +kernel) ⟨⟨T.cl_Giver, T.n_Giver_kept⟩, trivial⟩ se_var) sa_nil)))
abbrev s_Taker_ended : Stmt := inClass (topS 30) 7
abbrev N_Taker_ended : List Str := ["self"]
theorem sc_Taker_ended : FnScope N_Taker_ended ["self"] (defScope s_Taker_ended) := ⟨rfl, rfl, rfl, by decide +kernel, rfl, by decide +kernel, by decide +kernel⟩
theorem ok_Taker_ended {P : Program} {w : World} {K : PySem.W.Frag} {mg : Str → Option Value} {base : Heap} {a : Addr} {fd : FuncData} {ca : String → Addr} (T : Txt K mg ca) (F : Fun K "ended" "Taker.ended" s_Taker_ended a fd)  :
    FnOk P w K mg base (L2.CX P w) 1 a fd ["self"] (SpF K ca F_Taker_ended) := by
  refine SM.Fn.ofF F sc_Taker_ended rfl fun cdv A outer s H E hr => ?_
  have nd := sc_Taker_ended.nd
  refine ⟨_, (pss_one (ps_ret (pe_fld (pv 0) rfl))), ?_⟩
  exact (ss_ret (se_fld (by decide +kernel) ⟨⟨T.cl_Taker, T.n_Taker_over⟩, trivial⟩ se_var))
abbrev s_Taker_ready : Stmt := inClass (topS 30) 6
abbrev N_Taker_ready : List Str := ["self"]
theorem sc_Taker_ready : FnScope N_Taker_ready ["self"] (defScope s_Taker_ready) := ⟨rfl, rfl, rfl, by decide +kernel, rfl, by decide +kernel, by decide +kernel⟩
theorem ok_Taker_ready {P : Program} {w : World} {K : PySem.W.Frag} {mg : Str → Option Value} {base : Heap} {a : Addr} {fd : FuncData} {ca : String → Addr} (T : Txt K mg ca) (F : Fun K "ready" "Taker.ready" s_Taker_ready a fd)  :
    FnOk P w K mg base (L2.CX P w) 1 a fd ["self"] (SpF K ca F_Taker_ready) := by
  refine SM.Fn.ofF F sc_Taker_ready rfl fun cdv A outer s H E hr => ?_
  have nd := sc_Taker_ready.nd
  refine ⟨_, (pss_one (ps_ret (pe_callB (call_lenU (K := K)) (by rfl) T.b_len (by decide +kernel) (pa_cons (pe_fld (pv 0) rfl) pa_nil)))), ?_⟩
  exact (ss_ret (se_cb cs_len (sa_cons (se_fld (by decide +kernel) ⟨⟨T.cl_Taker, T.n_Taker_unread⟩, trivial⟩ se_var) sa_nil)))
abbrev s_l_right : Stmt := topS 41
abbrev N_l_right : List Str := ["_law_world_here", "_law_giver", "_law_taker", "_law_come"]
theorem sc_l_right : FnScope N_l_right ["_law_world_here"] (defScope s_l_right) := ⟨rfl, rfl, rfl, by decide +kernel, rfl, by decide +kernel, by decide +kernel⟩
theorem ok_l_right {P : Program} {w : World} {K : PySem.W.Frag} {mg : Str → Option Value} {base : Heap} {a : Addr} {fd : FuncData} {ca : String → Addr} (T : Txt K mg ca) (F : Fun K "_law_right" "_law_right" s_l_right a fd) (M_Giver_answered : SM.Mt P w K mg base 1 (ca "Giver") "answered" (SpF K ca F_Giver_answered)) (M_Giver_left : SM.Mt P w K mg base 1 (ca "Giver") "left" (SpF K ca F_Giver_left)) (M_Taker_ended : SM.Mt P w K mg base 1 (ca "Taker") "ended" (SpF K ca F_Taker_ended)) (M_Taker_ready : SM.Mt P w K mg base 1 (ca "Taker") "ready" (SpF K ca F_Taker_ready)) (M_Taker_wants : SM.Mt P w K mg base 2 (ca "Taker") "wants" (SpF K ca F_Taker_wants)) :
    FnOk P w K mg base (L2.CX P w) 3 a fd ["_law_world_here"] (SpF K ca F_l_right) := by
  refine SM.Fn.ofF F sc_l_right rfl fun cdv A outer s H E hr => ?_
  have nd := sc_l_right.nd
  refine ⟨_, (pss_cons (ps_par (i := 1) (j := 2) rfl nd rfl rfl (by decide) rfl rfl (pa_cons (pe_dgetO (DL.room65 hr) (pv 0) pe_str (fun _ _ => rfl)) (pa_cons (pe_dgetO (DL.room65 hr) (pv 0) pe_str (fun _ _ => rfl)) pa_nil)) (by rfl)) (pss_cons (ps_if (PW.pt (pw_or (pt_cmpR (op_nePK (K := K) (DL.room65 hr)) (pe_dgetO (DL.room65 hr) (pv 0) pe_str (fun _ _ => rfl)) (pe_slice (sl_U (K := K)) (pe_dgetO (DL.room65 hr) (pv 0) pe_str (fun _ _ => rfl)) po_none (po_some (pe_callB (call_lenU (K := K)) (by rfl) T.b_len (by decide +kernel) (pa_cons (pe_dgetO (DL.room65 hr) (pv 0) pe_str (fun _ _ => rfl)) pa_nil)))) (nomark _)) (pw_or1 (pt_cmpR (op_nePK (K := K) (DL.room65 hr)) (pe_ix (ix_U (K := K)) (pe_mtX0 M_Taker_wants (takes_of rfl rfl rfl rfl) hr (by decide) T.cl_Taker (pv 2)) pe_int (fun _ _ => rfl)) (pe_op op_subU (pe_dgetO (DL.room65 hr) (pv 0) pe_str (fun _ _ => rfl)) (pe_mtX0 M_Taker_ready (takes_of rfl rfl rfl rfl) hr (by decide) T.cl_Taker (pv 2))) (nomark _))))) (pss_one (ps_ret pe_bl)) pss_nil) (pss_cons (ps_set (i := 3) nd rfl (by first | exact Or.inl rfl | exact Or.inr rfl) (pe_op op_modU (pe_op op_subU (pe_ix (ix_U (K := K)) (pe_mtX0 M_Taker_wants (takes_of rfl rfl rfl rfl) hr (by decide) T.cl_Taker (pv 2)) pe_int (fun _ _ => rfl)) (pe_dgetO (DL.room65 hr) (pv 0) pe_str (fun _ _ => rfl))) (pe_op op_powU pe_int pe_int))) (pss_cons (ps_if (pt_cmpR (op_nePK (K := K) (DL.room65 hr)) (pv 3) (pe_op (op_addU (K := K)) (pe_op (op_addU (K := K)) (pe_op (op_addU (K := K)) (pe_callB (call_max2U rfl) (by rfl) T.b_max (by decide +kernel) (pa_cons pe_int (pa_cons (pe_callB (call_min2U rfl) (by rfl) T.b_min (by decide +kernel) (pa_cons (pv 3) (pa_cons pe_int pa_nil))) pa_nil))) (pe_callB (call_lenU (K := K)) (by rfl) T.b_len (by decide +kernel) (pa_cons (pe_dgetO (DL.room65 hr) (pv 0) pe_str (fun _ _ => rfl)) pa_nil))) (pe_mtX0 M_Taker_ready (takes_of rfl rfl rfl rfl) hr (by decide) T.cl_Taker (pv 2))) (pe_callTy call_intU (by rfl) T.b_int (by decide +kernel) (pa_cons (pe_mtX0 M_Taker_ended (takes_of rfl rfl rfl rfl) hr (by decide) T.cl_Taker (pv 2)) pa_nil))) (nomark _)) (pss_one (ps_ret pe_bl)) pss_nil) (pss_cons (ps_if (PW.pt (pw_or (pt_not (pt_chain op_leU op_leU pe_int (pe_mtX0 M_Taker_ready (takes_of rfl rfl rfl rfl) hr (by decide) T.cl_Taker (pv 2)) (pe_dgetO (DL.room65 hr) (pv 0) pe_str (fun _ _ => rfl)))) (pw_or1 (pt_cmpR op_gtU (pe_mtX0 M_Giver_answered (takes_of rfl rfl rfl rfl) hr (by decide) T.cl_Giver (pv 1)) (pv 3) (nomark _))))) (pss_one (ps_ret pe_bl)) pss_nil) (pss_one (ps_ret (pe_cmpR (op_eqPK (K := K) (DL.room65 hr)) (pe_op (op_addU (K := K)) (pe_mtX0 M_Giver_answered (takes_of rfl rfl rfl rfl) hr (by decide) T.cl_Giver (pv 1)) (pe_mtX0 M_Giver_left (takes_of rfl rfl rfl rfl) hr (by decide) T.cl_Giver (pv 1))) (pe_op (op_addU (K := K)) (pe_op (op_addU (K := K)) pe_int (pe_callB (call_lenU (K := K)) (by rfl) T.b_len (by decide +kernel) (pa_cons (pe_dgetO (DL.room65 hr) (pv 0) pe_str (fun _ _ => rfl)) pa_nil))) (pe_dgetO (DL.room65 hr) (pv 0) pe_str (fun _ _ => rfl))) (nomark _))))))))), ?_⟩
  exact (ss_seq (ss_par (sa_cons (se_op os_dget se_var (se_strS (by decide +kernel))) (sa_cons (se_op os_dget se_var (se_strS (by decide +kernel))) sa_nil))) (ss_seq (ss_if (st_or (st_test (se_op os_ne (se_op os_dget se_var (se_strS (by decide +kernel))) (se_sl sls_all (se_op os_dget se_var (se_strS (by decide +kernel))) so_none (so_some (se_cb cs_len (sa_cons (se_op os_dget se_var (se_strS (by decide +kernel))) sa_nil)))))) (st_test (se_op os_ne (se_op os_ix (meth_one (by decide +kernel) se_var sa_nil) se_int) (se_op os_sub (se_op os_dget se_var (se_strS (by decide +kernel))) (meth_one (by decide +kernel) se_var sa_nil))))) (ss_ret se_bl) ss_next) (ss_seq (ss_set (se_op os_mod (se_op os_sub (se_op os_ix (meth_one (by decide +kernel) se_var sa_nil) se_int) (se_op os_dget se_var (se_strS (by decide +kernel)))) (se_op os_pow se_int se_int))) (ss_seq (ss_if (st_test (se_op os_ne se_var (se_op os_add (se_op os_add (se_op os_add (se_cb cs_max2 (sa_cons se_int (sa_cons (se_cb cs_min2 (sa_cons se_var (sa_cons se_int sa_nil))) sa_nil))) (se_cb cs_len (sa_cons (se_op os_dget se_var (se_strS (by decide +kernel))) sa_nil))) (meth_one (by decide +kernel) se_var sa_nil)) (se_cb cs_int (sa_cons (meth_one (by decide +kernel) se_var sa_nil) sa_nil))))) (ss_ret se_bl) ss_next) (ss_seq (ss_if (st_or (st_not (st_test (se_ch os_le os_le se_int (meth_one (by decide +kernel) se_var sa_nil) (se_op os_dget se_var (se_strS (by decide +kernel)))))) (st_test (se_op os_gt (meth_one (by decide +kernel) se_var sa_nil) se_var))) (ss_ret se_bl) ss_next) (ss_ret (se_op os_eq (se_op os_add (meth_one (by decide +kernel) se_var sa_nil) (meth_one (by decide +kernel) se_var sa_nil)) (se_op os_add (se_op os_add se_int (se_cb cs_len (sa_cons (se_op os_dget se_var (se_strS (by decide +kernel))) sa_nil))) (se_op os_dget se_var (se_strS (by decide +kernel)))))))))))
abbrev s_l_through : Stmt := topS 42
abbrev N_l_through : List Str := ["_law_world_here", "_law_giver", "_law_taker", "_law_k", "_law_number", "_law_items"]
theorem sc_l_through : FnScope N_l_through ["_law_world_here"] (defScope s_l_through) := ⟨rfl, rfl, rfl, by decide +kernel, rfl, by decide +kernel, by decide +kernel⟩
theorem ok_l_through {P : Program} {w : World} {K : PySem.W.Frag} {mg : Str → Option Value} {base : Heap} {a : Addr} {fd : FuncData} {ca : String → Addr} (T : Txt K mg ca) (F : Fun K "_law_through" "_law_through" s_l_through a fd) (M_Giver_due : SM.Mt P w K mg base 4 (ca "Giver") "due" (SpF K ca F_Giver_due)) (M_Giver_heard : SM.Mt P w K mg base 3 (ca "Giver") "heard" (SpF K ca F_Giver_heard)) (M_Giver_left : SM.Mt P w K mg base 1 (ca "Giver") "left" (SpF K ca F_Giver_left)) (M_Taker_ended : SM.Mt P w K mg base 1 (ca "Taker") "ended" (SpF K ca F_Taker_ended)) (M_Taker_read : SM.Mt P w K mg base 2 (ca "Taker") "read" (SpF K ca F_Taker_read)) (M_Taker_take : SM.Mt P w K mg base 4 (ca "Taker") "take" (SpF K ca F_Taker_take)) (M_Taker_wants : SM.Mt P w K mg base 2 (ca "Taker") "wants" (SpF K ca F_Taker_wants)) :
    FnOk P w K mg base (L2.CX P w) 5 a fd ["_law_world_here"] (SpF K ca F_l_through) := by
  refine SM.Fn.ofF F sc_l_through rfl fun cdv A outer s H E hr => ?_
  have nd := sc_l_through.nd
  refine ⟨_, (pss_cons (ps_par (i := 1) (j := 2) rfl nd rfl rfl (by decide) rfl rfl (pa_cons (pe_dgetO (DL.room65 hr) (pv 0) pe_str (fun _ _ => rfl)) (pa_cons (pe_dgetO (DL.room65 hr) (pv 0) pe_str (fun _ _ => rfl)) pa_nil)) (by rfl)) (pss_cons (ps_for (passes_of rfl) rfl (pi_range1 rfl T.b_range (pa_cons (pe_op (op_mulA (K := K)) (pe_op (op_mulA (K := K)) (pe_op (op_addU (K := K)) (pe_mtX0 M_Giver_left (takes_of rfl rfl rfl rfl) hr (by decide) T.cl_Giver (pv 1)) pe_int) pe_int) (pe_dgetO (DL.room65 hr) (pv 0) pe_str (fun _ _ => rfl))) pa_nil)) (pg_name (i := 3) nd rfl (by first | exact Or.inl rfl | exact Or.inr rfl)) (pss_one (ps_if (PW.pt (pw_or (pt_cmpR op_gtU (pe_mtX0 M_Giver_left (takes_of rfl rfl rfl rfl) hr (by decide) T.cl_Giver (pv 1)) pe_int (nomark _)) (pw_or1 (pt_cmpR op_ltU (pe_callB (call_lenU (K := K)) (by rfl) T.b_len (by decide +kernel) (pa_cons (pe_dgetO (DL.room65 hr) (pv 0) pe_str (fun _ _ => rfl)) pa_nil)) (pe_callB (call_lenU (K := K)) (by rfl) T.b_len (by decide +kernel) (pa_cons (pe_dgetO (DL.room65 hr) (pv 0) pe_str (fun _ _ => rfl)) pa_nil)) (nomark _))))) (pss_cons (ps_daug (DL.room65w hr) (pv 0) pe_str pe_int (ia_addA (K := K)) (fun _ _ _ => rfl)) (pss_cons (ps_for (passes_of rfl) rfl (pi_seqU (K := K) (pe_mtX M_Giver_due (takes_of rfl rfl rfl rfl) hr (by decide) T.cl_Giver (pv 1) (pa_cons (pe_dgetO (DL.room65 hr) (pv 0) pe_str (fun _ _ => rfl)) pa_nil))) (pg_tup rfl (pgs_cons (pg_name (i := 4) nd rfl (by first | exact Or.inl rfl | exact Or.inr rfl)) (pgs_cons (pg_name (i := 5) nd rfl (by first | exact Or.inl rfl | exact Or.inr rfl)) pgs_nil))) (pss_cons (ps_expr (pe_mtX M_Taker_take (takes_of rfl rfl rfl rfl) hr (by decide) T.cl_Taker (pv 2) (pa_cons (pv 4) (pa_cons (pv 5) pa_nil)))) (pss_one (ps_expr (pe_mtX M_Giver_heard (takes_of rfl rfl rfl rfl) hr (by decide) T.cl_Giver (pv 1) (pa_cons (pe_ix (ix_U (K := K)) (pe_mtX0 M_Taker_wants (takes_of rfl rfl rfl rfl) hr (by decide) T.cl_Taker (pv 2)) pe_int (fun _ _ => rfl)) (pa_cons (pe_ix (ix_U (K := K)) (pe_mtX0 M_Taker_wants (takes_of rfl rfl rfl rfl) hr (by decide) T.cl_Taker (pv 2)) pe_int (fun _ _ => rfl)) (pa_cons (pe_dgetO (DL.room65 hr) (pv 0) pe_str (fun _ _ => rfl)) pa_nil)))))))) (pss_one (PS.or (ps_asg (pe_op (op_addU (K := K)) (pe_dgetO (DL.room65 hr) (pv 0) pe_str (fun _ _ => rfl)) (pe_mtX M_Taker_read (takes_of rfl rfl rfl rfl) hr (by decide) T.cl_Taker (pv 2) (pa_cons pe_int pa_nil))) (pg_sub (pv 0) pe_str set_list)) (ps_dput (DL.room65w hr) (pv 0) pe_str (pe_op (op_addU (K := K)) (pe_dgetO (DL.room65 hr) (pv 0) pe_str (fun _ _ => rfl)) (pe_mtX M_Taker_read (takes_of rfl rfl rfl rfl) hr (by decide) T.cl_Taker (pv 2) (pa_cons pe_int pa_nil))) rfl))))) pss_nil))) (pss_one (ps_ret (pe_and (pe_cmpR (op_eqPK (K := K) (DL.room65 hr)) (pe_mtX0 M_Giver_left (takes_of rfl rfl rfl rfl) hr (by decide) T.cl_Giver (pv 1)) pe_int (nomark _)) (pe_and (pe_cmpR (op_eqPK (K := K) (DL.room65 hr)) (pe_dgetO (DL.room65 hr) (pv 0) pe_str (fun _ _ => rfl)) (pe_dgetO (DL.room65 hr) (pv 0) pe_str (fun _ _ => rfl)) (nomark _)) (pe_one (pe_cmpR (op_eqPK (K := K) (DL.room65 hr)) (pe_mtX0 M_Taker_ended (takes_of rfl rfl rfl rfl) hr (by decide) T.cl_Taker (pv 2)) (pe_cmpR (op_eqPK (K := K) (DL.room65 hr)) (pe_dgetO (DL.room65 hr) (pv 0) pe_str (fun _ _ => rfl)) pe_int (nomark _)) (nomark _))))))))), ?_⟩
  exact (ss_seq (ss_par (sa_cons (se_op os_dget se_var (se_strS (by decide +kernel))) (sa_cons (se_op os_dget se_var (se_strS (by decide +kernel))) sa_nil))) (ss_seq (ss_for (sw_r1 (sa_cons (se_op os_mul (se_op os_mul (se_op os_add (meth_one (by decide +kernel) se_var sa_nil) se_int) se_int) (se_op os_dget se_var (se_strS (by decide +kernel)))) sa_nil)) sg_name (ss_if (st_or (st_test (se_op os_gt (meth_one (by decide +kernel) se_var sa_nil) se_int)) (st_test (se_op os_lt (se_cb cs_len (sa_cons (se_op os_dget se_var (se_strS (by decide +kernel))) sa_nil)) (se_cb cs_len (sa_cons (se_op os_dget se_var (se_strS (by decide +kernel))) sa_nil))))) (ss_seq (ss_daug ips_add se_var (se_strS (by decide +kernel)) se_int) (ss_seq (ss_for (sw_seq (meth_one (by decide +kernel) se_var (sa_cons (se_op os_dget se_var (se_strS (by decide +kernel))) sa_nil))) (sg_tup (sgs_cons sg_name (sgs_cons sg_name sgs_nil)) rfl) (ss_seq (ss_drop (meth_one (by decide +kernel) se_var (sa_cons se_var (sa_cons se_var sa_nil)))) (ss_drop (meth_one (by decide +kernel) se_var (sa_cons (se_op os_ix (meth_one (by decide +kernel) se_var sa_nil) se_int) (sa_cons (se_op os_ix (meth_one (by decide +kernel) se_var sa_nil) se_int) (sa_cons (se_op os_dget se_var (se_strS (by decide +kernel))) sa_nil))))))) (ss_put se_var (se_strS (by decide +kernel)) (se_op os_add (se_op os_dget se_var (se_strS (by decide +kernel))) (meth_one (by decide +kernel) se_var (sa_cons se_int sa_nil)))))) ss_next)) (ss_ret (se_and (se_op os_eq (meth_one (by decide +kernel) se_var sa_nil) se_int) (se_and (se_op os_eq (se_op os_dget se_var (se_strS (by decide +kernel))) (se_op os_dget se_var (se_strS (by decide +kernel)))) (se_op os_eq (meth_one (by decide +kernel) se_var sa_nil) (se_op os_eq (se_op os_dget se_var (se_strS (by decide +kernel))) se_int)))))))
abbrev s_Giver___init__ : Stmt := inClass (topS 25) 0
abbrev N_Giver___init__ : List Str := ["self", "first", "most", "wait"]
theorem sc_Giver___init__ : FnScope N_Giver___init__ ["self", "first", "most", "wait"] (defScope s_Giver___init__) := ⟨rfl, rfl, rfl, by decide +kernel, rfl, by decide +kernel, by decide +kernel⟩
theorem ok_Giver___init__ {P : Program} {w : World} {K : PySem.W.Frag} {mg : Str → Option Value} {base : Heap} {a : Addr} {fd : FuncData} {ca : String → Addr} (T : Txt K mg ca) (F : Fun K "__init__" "Giver.__init__" s_Giver___init__ a fd) (C_is_number : Dx P w K mg base 1 "is_number" (SpF K ca F_is_number)) :
    FnOk P w K mg base (L2.CX P w) 2 a fd ["self", "first", "most", "wait"] (SpF K ca F_Giver___init__) := by
  refine SM.Fn.ofF F sc_Giver___init__ rfl fun cdv A outer s H E hr => ?_
  have nd := sc_Giver___init__.nd
  refine ⟨_, (pss_cons (ps_if (PW.pt (pw_or (pt_not (pt_val (pe_dx C_is_number (takes_of rfl rfl rfl rfl) hr (by decide) rfl (pa_cons (pv 1) (pa_cons pe_int pa_nil))))) (pw_or (pt_cmpR op_geU (pv 1) (pe_glob (v := .int 4294967296) rfl T.c_SIZE_givers.choose_spec ⟨_, rfl⟩) (nomark _)) (pw_or (pt_not (pt_val (pe_dx C_is_number (takes_of rfl rfl rfl rfl) hr (by decide) rfl (pa_cons (pv 2) (pa_cons pe_int pa_nil))))) (pw_or1 (pt_cmpR op_gtU (pv 2) (pe_glob (v := .int 200) rfl T.c_MOST_IN_PAIR.choose_spec ⟨_, rfl⟩) (nomark _))))))) (pss_one (DL.ps_raiseC rfl (takes_of rfl rfl rfl rfl) (pmk_own PySem.F.excBase_ValueError T.e_NoNumber T.g_NoNumber T.k_NoNumber (raises_own T.b_NoNumber T.t_NoNumber) rfl))) pss_nil) (pss_cons (ps_if (pt_not (pt_val (pe_dx C_is_number (takes_of rfl rfl rfl rfl) hr (by decide) rfl (pa_cons (pv 3) (pa_cons pe_int pa_nil))))) (pss_one (DL.ps_raiseC rfl (takes_of rfl rfl rfl rfl) (pmk_own PySem.F.excBase_ValueError T.e_NoNumber T.g_NoNumber T.k_NoNumber (raises_own T.b_NoNumber T.t_NoNumber) rfl))) pss_nil) (pss_cons (ps_fld (pv 0) (pv 1) rfl) (pss_cons (ps_fld (pv 0) (pv 2) rfl) (pss_cons (ps_fld (pv 0) (pv 3) rfl) (pss_cons (ps_fld (pv 0) (pv 3) rfl) (pss_cons (ps_fld (pv 0) (pe_lst (pa_cons pe_str pa_nil)) rfl) (pss_cons (ps_fld (pv 0) pe_int rfl) (pss_cons (ps_fld (pv 0) pe_int rfl) (pss_cons (ps_fld (pv 0) (pv 2) rfl) (pss_cons (ps_fld (pv 0) pe_non rfl) (pss_cons (ps_fld (pv 0) pe_int rfl) (pss_cons (ps_fld (pv 0) pe_int rfl) (pss_cons (ps_fld (pv 0) pe_bl rfl) (pss_one (ps_fld (pv 0) pe_int rfl)))))))))))))))), ?_⟩
  exact (ss_seq (ss_if (st_or (st_not (st_b (se_call (sa_cons se_var (sa_cons se_int sa_nil))))) (st_or (st_test (se_op os_ge se_var se_int)) (st_or (st_not (st_b (se_call (sa_cons se_var (sa_cons se_int sa_nil))))) (st_test (se_op os_gt se_var se_int))))) (ss_raise rfl) ss_next) (ss_seq (ss_if (st_not (st_b (se_call (sa_cons se_var (sa_cons se_int sa_nil))))) (ss_raise rfl) ss_next) (ss_seq (ss_fl (by decide +kernel) ⟨⟨T.cl_Giver, T.n_Giver_base⟩, trivial⟩ se_var se_var) (ss_seq (ss_fl (by decide +kernel) ⟨⟨T.cl_Giver, T.n_Giver_most⟩, trivial⟩ se_var se_var) (ss_seq (ss_fl (by decide +kernel) ⟨⟨T.cl_Giver, T.n_Giver_first_wait⟩, trivial⟩ se_var se_var) (ss_seq (ss_fl (by decide +kernel) ⟨⟨T.cl_Giver, T.n_Giver_wait⟩, trivial⟩ se_var se_var) (ss_seq (ss_fl (by decide +kernel) ⟨⟨T.cl_Giver, T.n_Giver_kept⟩, trivial⟩ se_var (se_lst (sa_cons (se_strS (by decide +kernel)) sa_nil))) (ss_seq (ss_fl (by decide +kernel) ⟨⟨T.cl_Giver, T.n_Giver_sent⟩, trivial⟩ se_var se_int) (ss_seq (ss_fl (by decide +kernel) ⟨⟨T.cl_Giver, T.n_Giver_reach⟩, trivial⟩ se_var se_int) (ss_seq (ss_fl (by decide +kernel) ⟨⟨T.cl_Giver, T.n_Giver_pace⟩, trivial⟩ se_var se_var) (ss_seq (ss_fl (by decide +kernel) ⟨⟨T.cl_Giver, T.n_Giver_since⟩, trivial⟩ se_var se_non) (ss_seq (ss_fl (by decide +kernel) ⟨⟨T.cl_Giver, T.n_Giver_tried⟩, trivial⟩ se_var se_int) (ss_seq (ss_fl (by decide +kernel) ⟨⟨T.cl_Giver, T.n_Giver_passed⟩, trivial⟩ se_var se_int) (ss_seq (ss_fl (by decide +kernel) ⟨⟨T.cl_Giver, T.n_Giver_finished⟩, trivial⟩ se_var se_bl) (ss_fl (by decide +kernel) ⟨⟨T.cl_Giver, T.n_Giver_now⟩, trivial⟩ se_var se_int)))))))))))))))
abbrev s_Taker___init__ : Stmt := inClass (topS 30) 0
abbrev N_Taker___init__ : List Str := ["self", "first", "room"]
theorem sc_Taker___init__ : FnScope N_Taker___init__ ["self", "first", "room"] (defScope s_Taker___init__) := ⟨rfl, rfl, rfl, by decide +kernel, rfl, by decide +kernel, by decide +kernel⟩
theorem ok_Taker___init__ {P : Program} {w : World} {K : PySem.W.Frag} {mg : Str → Option Value} {base : Heap} {a : Addr} {fd : FuncData} {ca : String → Addr} (T : Txt K mg ca) (F : Fun K "__init__" "Taker.__init__" s_Taker___init__ a fd) (C_is_within : Dx P w K mg base 1 "is_within" (SpF K ca F_is_within)) :
    FnOk P w K mg base (L2.CX P w) 2 a fd ["self", "first", "room"] (SpF K ca F_Taker___init__) := by
  refine SM.Fn.ofF F sc_Taker___init__ rfl fun cdv A outer s H E hr => ?_
  have nd := sc_Taker___init__.nd
  refine ⟨_, (pss_cons (ps_if (PW.pt (pw_or (pt_not (pt_val (pe_dx C_is_within (takes_of rfl rfl rfl rfl) hr (by decide) rfl (pa_cons (pv 1) (pa_cons pe_int (pa_cons (pe_op op_subU (pe_glob (v := .int 4294967296) rfl T.c_SIZE_takers.choose_spec ⟨_, rfl⟩) pe_int) pa_nil)))))) (pw_or1 (pt_not (pt_val (pe_dx C_is_within (takes_of rfl rfl rfl rfl) hr (by decide) rfl (pa_cons (pv 2) (pa_cons pe_int (pa_cons (pe_glob (v := .int 128) rfl T.c_MOST_ROOM.choose_spec ⟨_, rfl⟩) pa_nil))))))))) (pss_one (DL.ps_raiseC rfl (takes_of rfl rfl rfl rfl) (pmk_own PySem.F.excBase_ValueError T.e_NoNumber T.g_NoNumber T.k_NoNumber (raises_own T.b_NoNumber T.t_NoNumber) rfl))) pss_nil) (pss_cons (ps_fld (pv 0) (pv 1) rfl) (pss_cons (ps_fld (pv 0) (pv 2) rfl) (pss_cons (ps_fld (pv 0) pe_dnewK rfl) (pss_cons (ps_fld (pv 0) (pe_tup pa_nil) rfl) (pss_one (ps_fld (pv 0) pe_bl rfl))))))), ?_⟩
  exact (ss_seq (ss_if (st_or (st_not (st_b (se_call (sa_cons se_var (sa_cons se_int (sa_cons (se_op os_sub se_int se_int) sa_nil)))))) (st_not (st_b (se_call (sa_cons se_var (sa_cons se_int (sa_cons se_int sa_nil))))))) (ss_raise rfl) ss_next) (ss_seq (ss_fl (by decide +kernel) ⟨⟨T.cl_Taker, T.n_Taker_wanted⟩, trivial⟩ se_var se_var) (ss_seq (ss_fl (by decide +kernel) ⟨⟨T.cl_Taker, T.n_Taker_whole_room⟩, trivial⟩ se_var se_var) (ss_seq (ss_fl (by decide +kernel) ⟨⟨T.cl_Taker, T.n_Taker_ahead⟩, trivial⟩ se_var se_dnewK) (ss_seq (ss_fl (by decide +kernel) ⟨⟨T.cl_Taker, T.n_Taker_unread⟩, trivial⟩ se_var (se_tup sa_nil)) (ss_fl (by decide +kernel) ⟨⟨T.cl_Taker, T.n_Taker_over⟩, trivial⟩ se_var se_bl))))))
abbrev s_l_first : Stmt := topS 36
abbrev N_l_first : List Str := ["_law_draw_here"]
theorem sc_l_first : FnScope N_l_first ["_law_draw_here"] (defScope s_l_first) := ⟨rfl, rfl, rfl, by decide +kernel, rfl, by decide +kernel, by decide +kernel⟩
theorem ok_l_first {P : Program} {w : World} {K : PySem.W.Frag} {mg : Str → Option Value} {base : Heap} {a : Addr} {fd : FuncData} {ca : String → Addr} (T : Txt K mg ca) (F : Fun K "_law_first" "_law_first" s_l_first a fd) (C_l_next : Dx P w K mg base 2 "_law_next" (SpF K ca F_l_next)) :
    FnOk P w K mg base (L2.CX P w) 3 a fd ["_law_draw_here"] (SpF K ca F_l_first) := by
  refine SM.Fn.ofF F sc_l_first rfl fun cdv A outer s H E hr => ?_
  have nd := sc_l_first.nd
  refine ⟨_, (pss_one (ps_ret (pe_ix (ix_U (K := K)) (pe_lst (pa_cons pe_int (pa_cons (pe_dx C_l_next (takes_of rfl rfl rfl rfl) hr (by decide) rfl (pa_cons (pv 0) (pa_cons (pe_op op_powU pe_int pe_int) pa_nil))) (pa_cons (pe_op op_subU (pe_op op_subU (pe_op op_powU pe_int pe_int) pe_int) (pe_dx C_l_next (takes_of rfl rfl rfl rfl) hr (by decide) rfl (pa_cons (pv 0) (pa_cons pe_int pa_nil)))) pa_nil)))) (pe_dx C_l_next (takes_of rfl rfl rfl rfl) hr (by decide) rfl (pa_cons (pv 0) (pa_cons pe_int pa_nil))) (fun _ _ => rfl)))), ?_⟩
  exact (ss_ret (se_op os_ix (se_lst (sa_cons se_int (sa_cons (se_call (sa_cons se_var (sa_cons (se_op os_pow se_int se_int) sa_nil))) (sa_cons (se_op os_sub (se_op os_sub (se_op os_pow se_int se_int) se_int) (se_call (sa_cons se_var (sa_cons se_int sa_nil)))) sa_nil)))) (se_call (sa_cons se_var (sa_cons se_int sa_nil)))))
abbrev s_l_world : Stmt := topS 37
abbrev N_l_world : List Str := ["_law_script", "_law_draw_here", "_law_first_here", "_law_most", "_law_wait", "_law_room"]
theorem sc_l_world : FnScope N_l_world ["_law_script"] (defScope s_l_world) := ⟨rfl, rfl, rfl, by decide +kernel, rfl, by decide +kernel, by decide +kernel⟩
theorem ok_l_world {P : Program} {w : World} {K : PySem.W.Frag} {mg : Str → Option Value} {base : Heap} {a : Addr} {fd : FuncData} {ca : String → Addr} (T : Txt K mg ca) (F : Fun K "_law_world" "_law_world" s_l_world a fd) (M_Giver : Mx P w K mg base 2 "Giver" (ca "Giver") (SpF K ca F_Giver___init__)) (M_Taker : Mx P w K mg base 2 "Taker" (ca "Taker") (SpF K ca F_Taker___init__)) (C_l_draw : Dx P w K mg base 2 "_law_draw" (SpF K ca F_l_draw)) (C_l_first : Dx P w K mg base 3 "_law_first" (SpF K ca F_l_first)) (C_l_pick : Dx P w K mg base 3 "_law_pick" (SpF K ca F_l_pick)) :
    FnOk P w K mg base (L2.CX P w) 4 a fd ["_law_script"] (SpF K ca F_l_world) := by
  refine SM.Fn.ofF F sc_l_world rfl fun cdv A outer s H E hr => ?_
  have nd := sc_l_world.nd
  refine ⟨_, (pss_cons (ps_set (i := 1) nd rfl (by first | exact Or.inl rfl | exact Or.inr rfl) (pe_dx C_l_draw (takes_of rfl rfl rfl rfl) hr (by decide) rfl (pa_cons (pv 0) (pa_cons pe_int (pa_cons pe_int pa_nil))))) (pss_cons (ps_set (i := 2) nd rfl (by first | exact Or.inl rfl | exact Or.inr rfl) (pe_dx C_l_first (takes_of rfl rfl rfl rfl) hr (by decide) rfl (pa_cons (pv 1) pa_nil))) (pss_cons (ps_set (i := 3) nd rfl (by first | exact Or.inl rfl | exact Or.inr rfl) (pe_dx C_l_pick (takes_of rfl rfl rfl rfl) hr (by decide) rfl (pa_cons (pv 1) (pa_cons (pe_lst (pa_cons pe_int (pa_cons pe_int (pa_cons pe_int (pa_cons pe_int (pa_cons pe_int pa_nil)))))) pa_nil)))) (pss_cons (ps_set (i := 4) nd rfl (by first | exact Or.inl rfl | exact Or.inr rfl) (pe_dx C_l_pick (takes_of rfl rfl rfl rfl) hr (by decide) rfl (pa_cons (pv 1) (pa_cons (pe_lst (pa_cons pe_int (pa_cons pe_int (pa_cons pe_int pa_nil)))) pa_nil)))) (pss_cons (ps_set (i := 5) nd rfl (by first | exact Or.inl rfl | exact Or.inr rfl) (pe_dx C_l_pick (takes_of rfl rfl rfl rfl) hr (by decide) rfl (pa_cons (pv 1) (pa_cons (pe_lst (pa_cons pe_int (pa_cons pe_int (pa_cons pe_int (pa_cons pe_int (pa_cons pe_int pa_nil)))))) pa_nil)))) (pss_one (ps_ret (pe_disp (pps_cons pe_str (pe_mx M_Giver (takes_of rfl rfl rfl rfl) hr (by decide) rfl (pa_cons (pv 2) (pa_cons (pv 3) (pa_cons (pv 4) pa_nil)))) (pps_cons pe_str (pe_mx M_Taker (takes_of rfl rfl rfl rfl) hr (by decide) rfl (pa_cons (pv 2) (pa_cons (pv 5) pa_nil))) (pps_cons pe_str (pv 4) (pps_cons pe_str (pv 5) (pps_cons pe_str (pv 2) (pps_cons pe_str pe_int (pps_cons pe_str (pe_lst pa_nil) (pps_cons pe_str (pe_lst pa_nil) (pps_cons pe_str (pe_tup pa_nil) (pps_cons pe_str (pe_tup pa_nil) (pps_cons pe_str pe_int pps_nil))))))))))) rfl rfl (by intro z; cases z) (by decide))))))))), ?_⟩
  exact (ss_seq (ss_set (se_call (sa_cons se_var (sa_cons se_int (sa_cons se_int sa_nil))))) (ss_seq (ss_set (se_call (sa_cons se_var sa_nil))) (ss_seq (ss_set (se_call (sa_cons se_var (sa_cons (se_lst (sa_cons se_int (sa_cons se_int (sa_cons se_int (sa_cons se_int (sa_cons se_int sa_nil)))))) sa_nil)))) (ss_seq (ss_set (se_call (sa_cons se_var (sa_cons (se_lst (sa_cons se_int (sa_cons se_int (sa_cons se_int sa_nil)))) sa_nil)))) (ss_seq (ss_set (se_call (sa_cons se_var (sa_cons (se_lst (sa_cons se_int (sa_cons se_int (sa_cons se_int (sa_cons se_int (sa_cons se_int sa_nil)))))) sa_nil)))) (ss_ret (se_disp (sd_cons (se_strS (by decide +kernel)) (se_make (sa_cons se_var (sa_cons se_var (sa_cons se_var sa_nil)))) (sd_cons (se_strS (by decide +kernel)) (se_make (sa_cons se_var (sa_cons se_var sa_nil))) (sd_cons (se_strS (by decide +kernel)) se_var (sd_cons (se_strS (by decide +kernel)) se_var (sd_cons (se_strS (by decide +kernel)) se_var (sd_cons (se_strS (by decide +kernel)) se_int (sd_cons (se_strS (by decide +kernel)) (se_lst sa_nil) (sd_cons (se_strS (by decide +kernel)) (se_lst sa_nil) (sd_cons (se_strS (by decide +kernel)) (se_tup sa_nil) (sd_cons (se_strS (by decide +kernel)) (se_tup sa_nil) (sd_cons (se_strS (by decide +kernel)) se_int sd_nil))))))))))))))))))
abbrev s_law : Stmt := topS 43
abbrev N_law : List Str := ["_law_script", "_law_world_here", "_law_k"]
theorem sc_law : FnScope N_law ["_law_script"] (defScope s_law) := ⟨rfl, rfl, rfl, by decide +kernel, rfl, by decide +kernel, by decide +kernel⟩
theorem ok_law {P : Program} {w : World} {K : PySem.W.Frag} {mg : Str → Option Value} {base : Heap} {a : Addr} {fd : FuncData} {ca : String → Addr} (T : Txt K mg ca) (F : Fun K "law" "law" s_law a fd) (C_l_deed : Dx P w K mg base 6 "_law_deed" (SpF K ca F_l_deed)) (C_l_draw : Dx P w K mg base 2 "_law_draw" (SpF K ca F_l_draw)) (C_l_right : Dx P w K mg base 3 "_law_right" (SpF K ca F_l_right)) (C_l_through : Dx P w K mg base 5 "_law_through" (SpF K ca F_l_through)) (C_l_world : Dx P w K mg base 4 "_law_world" (SpF K ca F_l_world)) :
    FnOk P w K mg base CX0 7 a fd ["_law_script"] (SpF K ca F_law) := by
  refine SM.Fn.ofF0 F sc_law rfl fun cdv A outer s H E hr => ?_
  have nd := sc_law.nd
  refine ⟨_, (pss_cons (ps_set (i := 1) nd rfl (by first | exact Or.inl rfl | exact Or.inr rfl) (pe_dx0 C_l_world hr (by decide) rfl (pa_cons (pv 0) pa_nil))) (pss_cons (ps_for PassesOwn.never rfl (pi_range2 rfl T.b_range (pa_cons pe_int (pa_cons (pe_callB (call_min2U rfl) (by rfl) T.b_min (by decide +kernel) (pa_cons pe_int (pa_cons (pe_callB (call_lenU (K := K)) (by rfl) T.b_len (by decide +kernel) (pa_cons (pv 0) pa_nil)) pa_nil))) pa_nil))) (pg_name (i := 2) nd rfl (by first | exact Or.inl rfl | exact Or.inr rfl)) (pss_one (ps_if (PW.pt (pw_or (pt_not (pt_val (pe_dx0 C_l_deed hr (by decide) rfl (pa_cons (pv 1) (pa_cons (pe_dx0 C_l_draw hr (by decide) rfl (pa_cons (pv 0) (pa_cons (pv 2) (pa_cons pe_int pa_nil)))) pa_nil))))) (pw_or1 (pt_not (pt_val (pe_dx0 C_l_right hr (by decide) rfl (pa_cons (pv 1) pa_nil))))))) (pss_one (ps_ret pe_bl)) pss_nil))) (pss_one (ps_ret (pe_and (pe_dx0 C_l_through hr (by decide) rfl (pa_cons (pv 1) pa_nil)) (pe_one (pe_dx0 C_l_right hr (by decide) rfl (pa_cons (pv 1) pa_nil)))))))), ?_⟩
  exact (ss_seq (ss_set (se_call0 (sa_cons se_var sa_nil))) (ss_seq (ss_for (sw_r2 (sa_cons se_int (sa_cons (se_cb cs_min2 (sa_cons se_int (sa_cons (se_cb cs_len (sa_cons se_var sa_nil)) sa_nil))) sa_nil))) sg_name (ss_if (st_or (st_not (st_b (se_call0 (sa_cons se_var (sa_cons (se_call0 (sa_cons se_var (sa_cons se_var (sa_cons se_int sa_nil)))) sa_nil))))) (st_not (st_b (se_call0 (sa_cons se_var sa_nil))))) (ss_ret se_bl) ss_next)) (ss_ret (se_and (se_call0 (sa_cons se_var sa_nil)) (se_call0 (sa_cons se_var sa_nil))))))
def spLaw (K : PySem.W.Frag) : Sp := fun vs H Q _ => ∃ (a : Addr) (ns : List Int), vs = [.ref a] ∧ SqL K H a (ns.map V.int) ∧ ns.length ≤ 63 ∧ ∀ H1, Q (.bl true) H1
theorem law_imp {K : PySem.W.Frag} {ca : String → Addr} : ∀ (vs : List V) (H : Hp) (Q : VK) (E : XK), spLaw K vs H Q E → SpF K ca F_law vs H Q E := fun vs H Q E ⟨a, ns, e, h, hl, k⟩ => by
  subst e
  obtain ⟨A, hA⟩ := law_true ns hl
  refine ⟨H, [], [], [.scr (ns.map D.int)], ⟨DL.Ex.refl H, rfl, List.nodup_nil, fun a h => by simp at h, fun i o a h => by simp at h⟩, .cons (.scr h RepL.of_ints) .nil, ?_⟩
  rw [hA]
  intro v F' m' H' _ _ r
  cases r
  exact k H'
theorem all_mk {l : PySem.W.OpenLaw} {w : World} {K : PySem.W.Frag} {h : Heap} {mg : Str → Option Value} {fa f0 f1 f2 f3 f4 f5 f6 f7 f8 f9 f10 f11 f12 f13 f14 f15 f16 f17 f18 f19 f20 f21 f22 f23 f24 f25 f26 f27 f28 f29 f30 f31 f32 f33 f34 f35 f36 f37 f38 f39 : Addr} (X : K.In h) (G : h.Ns mainGlobals mg) (hfa : mg "law" = some (.ref fa))
    {od0 an0 od1 an1 od2 an2 od3 an3 od4 an4 od5 an5 od6 an6 od7 an7 od8 an8 od9 an9 od10 an10 od11 an11 od12 an12 od13 an13 od14 an14 od15 an15 od16 an16 od17 an17 od18 an18 od19 an19 od20 an20 od21 an21 od22 an22 od23 an23 od24 an24 od25 an25 od26 an26 od27 an27 od28 an28 od29 an29 od30 an30 od31 an31 od32 an32 od33 an33 od34 an34 od35 an35 od36 an36 od37 an37 od38 an38 od39 an39 : Option Addr} {sl0 sl1 sl2 sl3 sl4 sl5 sl6 sl7 sl8 sl9 sl10 sl11 sl12 sl13 sl14 sl15 sl16 sl17 sl18 sl19 sl20 sl21 sl22 sl23 sl24 sl25 sl26 sl27 sl28 sl29 sl30 sl31 sl32 sl33 sl34 sl35 sl36 sl37 sl38 sl39 : Array (Option Value)} {oc0 kV0 dc0 pm0 cd0 ct0 oc1 kV1 dc1 pm1 cd1 ct1 oc2 kV2 dc2 pm2 cd2 ct2 oc3 kV3 dc3 pm3 cd3 ct3 oc4 kV4 dc4 pm4 cd4 ct4 oc5 kV5 dc5 pm5 cd5 ct5 oc6 kV6 dc6 pm6 cd6 ct6 oc7 kV7 dc7 pm7 cd7 ct7 oc8 kV8 dc8 pm8 cd8 ct8 oc9 kV9 dc9 pm9 cd9 ct9 oc10 kV10 dc10 pm10 cd10 ct10 oc11 kV11 dc11 pm11 cd11 ct11 oc12 kV12 dc12 pm12 cd12 ct12 oc13 kV13 dc13 pm13 cd13 ct13 oc14 kV14 dc14 pm14 cd14 ct14 oc15 kV15 dc15 pm15 cd15 ct15 oc16 kV16 dc16 pm16 cd16 ct16 oc17 kV17 dc17 pm17 cd17 ct17 oc18 kV18 dc18 pm18 cd18 ct18 oc19 kV19 dc19 pm19 cd19 ct19 oc20 kV20 dc20 pm20 cd20 ct20 oc21 kV21 dc21 pm21 cd21 ct21 oc22 kV22 dc22 pm22 cd22 ct22 oc23 kV23 dc23 pm23 cd23 ct23 oc24 kV24 dc24 pm24 cd24 ct24 oc25 kV25 dc25 pm25 cd25 ct25 oc26 kV26 dc26 pm26 cd26 ct26 oc27 kV27 dc27 pm27 cd27 ct27 oc28 kV28 dc28 pm28 cd28 ct28 oc29 kV29 dc29 pm29 cd29 ct29 oc30 kV30 dc30 pm30 cd30 ct30 oc31 kV31 dc31 pm31 cd31 ct31 oc32 kV32 dc32 pm32 cd32 ct32 oc33 kV33 dc33 pm33 cd33 ct33 oc34 kV34 dc34 pm34 cd34 ct34 oc35 kV35 dc35 pm35 cd35 ct35 oc36 kV36 dc36 pm36 cd36 ct36 oc37 kV37 dc37 pm37 cd37 ct37 oc38 kV38 dc38 pm38 cd38 ct38 oc39 kV39 dc39 pm39 cd39 ct39 : Value}
    {ca_Giver : Addr} (g_Giver : PySem.W.nsIn K mainGlobals "Giver" = some (some (.ref ca_Giver))) {ca_NoData : Addr} (g_NoData : PySem.W.nsIn K mainGlobals "NoData" = some (some (.ref ca_NoData))) {ca_NoNumber : Addr} (g_NoNumber : PySem.W.nsIn K mainGlobals "NoNumber" = some (some (.ref ca_NoNumber))) {ca_NoSize : Addr} (g_NoSize : PySem.W.nsIn K mainGlobals "NoSize" = some (some (.ref ca_NoSize))) {ca_NoTick : Addr} (g_NoTick : PySem.W.nsIn K mainGlobals "NoTick" = some (some (.ref ca_NoTick))) {ca_Taker : Addr} (g_Taker : PySem.W.nsIn K mainGlobals "Taker" = some (some (.ref ca_Taker)))
    (a0 : PySem.W.findIn K (.ref ca_Giver) "again" = some (some (.ref f0))) (i0 : PySem.W.isFn K (.ref f0) = true) (l0 : K.lookup f0 = some ⟨oc0, od0, .func (PySem.W.fnOf "again" "Giver.again" (defArgs s_Giver_again) (defBody s_Giver_again) (defScope s_Giver_again) .none kV0 dc0 pm0 an0 cd0 ct0), sl0⟩) (c0 : PySem.W.codeIn K cd0 "Giver.again" = true) (k0 : PySem.W.keepIn K (.ref f0) = true)
    (a1 : PySem.W.findIn K (.ref ca_Giver) "is_counted" = some (some (.ref f1))) (i1 : PySem.W.isFn K (.ref f1) = true) (l1 : K.lookup f1 = some ⟨oc1, od1, .func (PySem.W.fnOf "is_counted" "Giver.is_counted" (defArgs s_Giver_is_counted) (defBody s_Giver_is_counted) (defScope s_Giver_is_counted) .none kV1 dc1 pm1 an1 cd1 ct1), sl1⟩) (c1 : PySem.W.codeIn K cd1 "Giver.is_counted" = true) (k1 : PySem.W.keepIn K (.ref f1) = true)
    (a2 : PySem.W.findIn K (.ref ca_Giver) "count" = some (some (.ref f2))) (i2 : PySem.W.isFn K (.ref f2) = true) (l2 : K.lookup f2 = some ⟨oc2, od2, .func (PySem.W.fnOf "count" "Giver.count" (defArgs s_Giver_count) (defBody s_Giver_count) (defScope s_Giver_count) .none kV2 dc2 pm2 an2 cd2 ct2), sl2⟩) (c2 : PySem.W.codeIn K cd2 "Giver.count" = true) (k2 : PySem.W.keepIn K (.ref f2) = true)
    (a3 : PySem.W.nsIn K mainGlobals "is_number" = some (some (.ref f3))) (l3 : K.lookup f3 = some ⟨oc3, od3, .func (PySem.W.fnOf "is_number" "is_number" (defArgs s_is_number) (defBody s_is_number) (defScope s_is_number) .none kV3 dc3 pm3 an3 cd3 ct3), sl3⟩) (c3 : PySem.W.codeIn K cd3 "is_number" = true) (k3 : PySem.W.keepIn K (.ref f3) = true)
    (a4 : PySem.W.findIn K (.ref ca_Giver) "need_tick" = some (some (.ref f4))) (i4 : PySem.W.isFn K (.ref f4) = true) (l4 : K.lookup f4 = some ⟨oc4, od4, .func (PySem.W.fnOf "need_tick" "Giver.need_tick" (defArgs s_Giver_need_tick) (defBody s_Giver_need_tick) (defScope s_Giver_need_tick) .none kV4 dc4 pm4 an4 cd4 ct4), sl4⟩) (c4 : PySem.W.codeIn K cd4 "Giver.need_tick" = true) (k4 : PySem.W.keepIn K (.ref f4) = true)
    (a5 : PySem.W.nsIn K mainGlobals "need_number" = some (some (.ref f5))) (l5 : K.lookup f5 = some ⟨oc5, od5, .func (PySem.W.fnOf "need_number" "need_number" (defArgs s_need_number) (defBody s_need_number) (defScope s_need_number) .none kV5 dc5 pm5 an5 cd5 ct5), sl5⟩) (c5 : PySem.W.codeIn K cd5 "need_number" = true) (k5 : PySem.W.keepIn K (.ref f5) = true)
    (a6 : PySem.W.nsIn K mainGlobals "need_size" = some (some (.ref f6))) (l6 : K.lookup f6 = some ⟨oc6, od6, .func (PySem.W.fnOf "need_size" "need_size" (defArgs s_need_size) (defBody s_need_size) (defScope s_need_size) .none kV6 dc6 pm6 an6 cd6 ct6), sl6⟩) (c6 : PySem.W.codeIn K cd6 "need_size" = true) (k6 : PySem.W.keepIn K (.ref f6) = true)
    (a7 : PySem.W.nsIn K mainGlobals "moved" = some (some (.ref f7))) (l7 : K.lookup f7 = some ⟨oc7, od7, .func (PySem.W.fnOf "moved" "moved" (defArgs s_moved) (defBody s_moved) (defScope s_moved) .none kV7 dc7 pm7 an7 cd7 ct7), sl7⟩) (c7 : PySem.W.codeIn K cd7 "moved" = true) (k7 : PySem.W.keepIn K (.ref f7) = true)
    (a8 : PySem.W.findIn K (.ref ca_Giver) "next_number" = some (some (.ref f8))) (i8 : PySem.W.isFn K (.ref f8) = true) (l8 : K.lookup f8 = some ⟨oc8, od8, .func (PySem.W.fnOf "next_number" "Giver.next_number" (defArgs s_Giver_next_number) (defBody s_Giver_next_number) (defScope s_Giver_next_number) .none kV8 dc8 pm8 an8 cd8 ct8), sl8⟩) (c8 : PySem.W.codeIn K cd8 "Giver.next_number" = true) (k8 : PySem.W.keepIn K (.ref f8) = true)
    (a9 : PySem.W.findIn K (.ref ca_Giver) "due" = some (some (.ref f9))) (i9 : PySem.W.isFn K (.ref f9) = true) (l9 : K.lookup f9 = some ⟨oc9, od9, .func (PySem.W.fnOf "due" "Giver.due" (defArgs s_Giver_due) (defBody s_Giver_due) (defScope s_Giver_due) .none kV9 dc9 pm9 an9 cd9 ct9), sl9⟩) (c9 : PySem.W.codeIn K cd9 "Giver.due" = true) (k9 : PySem.W.keepIn K (.ref f9) = true)
    (a10 : PySem.W.findIn K (.ref ca_Giver) "finish" = some (some (.ref f10))) (i10 : PySem.W.isFn K (.ref f10) = true) (l10 : K.lookup f10 = some ⟨oc10, od10, .func (PySem.W.fnOf "finish" "Giver.finish" (defArgs s_Giver_finish) (defBody s_Giver_finish) (defScope s_Giver_finish) .none kV10 dc10 pm10 an10 cd10 ct10), sl10⟩) (c10 : PySem.W.codeIn K cd10 "Giver.finish" = true) (k10 : PySem.W.keepIn K (.ref f10) = true)
    (a11 : PySem.W.nsIn K mainGlobals "far" = some (some (.ref f11))) (l11 : K.lookup f11 = some ⟨oc11, od11, .func (PySem.W.fnOf "far" "far" (defArgs s_far) (defBody s_far) (defScope s_far) .none kV11 dc11 pm11 an11 cd11 ct11), sl11⟩) (c11 : PySem.W.codeIn K cd11 "far" = true) (k11 : PySem.W.keepIn K (.ref f11) = true)
    (a12 : PySem.W.findIn K (.ref ca_Giver) "heard" = some (some (.ref f12))) (i12 : PySem.W.isFn K (.ref f12) = true) (l12 : K.lookup f12 = some ⟨oc12, od12, .func (PySem.W.fnOf "heard" "Giver.heard" (defArgs s_Giver_heard) (defBody s_Giver_heard) (defScope s_Giver_heard) .none kV12 dc12 pm12 an12 cd12 ct12), sl12⟩) (c12 : PySem.W.codeIn K cd12 "Giver.heard" = true) (k12 : PySem.W.keepIn K (.ref f12) = true)
    (a13 : PySem.W.nsIn K mainGlobals "is_whole" = some (some (.ref f13))) (l13 : K.lookup f13 = some ⟨oc13, od13, .func (PySem.W.fnOf "is_whole" "is_whole" (defArgs s_is_whole) (defBody s_is_whole) (defScope s_is_whole) .none kV13 dc13 pm13 an13 cd13 ct13), sl13⟩) (c13 : PySem.W.codeIn K cd13 "is_whole" = true) (k13 : PySem.W.keepIn K (.ref f13) = true)
    (a14 : PySem.W.nsIn K mainGlobals "is_data" = some (some (.ref f14))) (l14 : K.lookup f14 = some ⟨oc14, od14, .func (PySem.W.fnOf "is_data" "is_data" (defArgs s_is_data) (defBody s_is_data) (defScope s_is_data) .none kV14 dc14 pm14 an14 cd14 ct14), sl14⟩) (c14 : PySem.W.codeIn K cd14 "is_data" = true) (k14 : PySem.W.keepIn K (.ref f14) = true)
    (a15 : PySem.W.findIn K (.ref ca_Giver) "write" = some (some (.ref f15))) (i15 : PySem.W.isFn K (.ref f15) = true) (l15 : K.lookup f15 = some ⟨oc15, od15, .func (PySem.W.fnOf "write" "Giver.write" (defArgs s_Giver_write) (defBody s_Giver_write) (defScope s_Giver_write) .none kV15 dc15 pm15 an15 cd15 ct15), sl15⟩) (c15 : PySem.W.codeIn K cd15 "Giver.write" = true) (k15 : PySem.W.keepIn K (.ref f15) = true)
    (a16 : PySem.W.nsIn K mainGlobals "is_within" = some (some (.ref f16))) (l16 : K.lookup f16 = some ⟨oc16, od16, .func (PySem.W.fnOf "is_within" "is_within" (defArgs s_is_within) (defBody s_is_within) (defScope s_is_within) .none kV16 dc16 pm16 an16 cd16 ct16), sl16⟩) (c16 : PySem.W.codeIn K cd16 "is_within" = true) (k16 : PySem.W.keepIn K (.ref f16) = true)
    (a17 : PySem.W.findIn K (.ref ca_Taker) "read" = some (some (.ref f17))) (i17 : PySem.W.isFn K (.ref f17) = true) (l17 : K.lookup f17 = some ⟨oc17, od17, .func (PySem.W.fnOf "read" "Taker.read" (defArgs s_Taker_read) (defBody s_Taker_read) (defScope s_Taker_read) .none kV17 dc17 pm17 an17 cd17 ct17), sl17⟩) (c17 : PySem.W.codeIn K cd17 "Taker.read" = true) (k17 : PySem.W.keepIn K (.ref f17) = true)
    (a18 : PySem.W.findIn K (.ref ca_Taker) "come_ready" = some (some (.ref f18))) (i18 : PySem.W.isFn K (.ref f18) = true) (l18 : K.lookup f18 = some ⟨oc18, od18, .func (PySem.W.fnOf "come_ready" "Taker.come_ready" (defArgs s_Taker_come_ready) (defBody s_Taker_come_ready) (defScope s_Taker_come_ready) .none kV18 dc18 pm18 an18 cd18 ct18), sl18⟩) (c18 : PySem.W.codeIn K cd18 "Taker.come_ready" = true) (k18 : PySem.W.keepIn K (.ref f18) = true)
    (a19 : PySem.W.findIn K (.ref ca_Taker) "free" = some (some (.ref f19))) (i19 : PySem.W.isFn K (.ref f19) = true) (l19 : K.lookup f19 = some ⟨oc19, od19, .func (PySem.W.fnOf "free" "Taker.free" (defArgs s_Taker_free) (defBody s_Taker_free) (defScope s_Taker_free) .none kV19 dc19 pm19 an19 cd19 ct19), sl19⟩) (c19 : PySem.W.codeIn K cd19 "Taker.free" = true) (k19 : PySem.W.keepIn K (.ref f19) = true)
    (a20 : PySem.W.findIn K (.ref ca_Taker) "wants" = some (some (.ref f20))) (i20 : PySem.W.isFn K (.ref f20) = true) (l20 : K.lookup f20 = some ⟨oc20, od20, .func (PySem.W.fnOf "wants" "Taker.wants" (defArgs s_Taker_wants) (defBody s_Taker_wants) (defScope s_Taker_wants) .none kV20 dc20 pm20 an20 cd20 ct20), sl20⟩) (c20 : PySem.W.codeIn K cd20 "Taker.wants" = true) (k20 : PySem.W.keepIn K (.ref f20) = true)
    (a21 : PySem.W.findIn K (.ref ca_Taker) "take" = some (some (.ref f21))) (i21 : PySem.W.isFn K (.ref f21) = true) (l21 : K.lookup f21 = some ⟨oc21, od21, .func (PySem.W.fnOf "take" "Taker.take" (defArgs s_Taker_take) (defBody s_Taker_take) (defScope s_Taker_take) .none kV21 dc21 pm21 an21 cd21 ct21), sl21⟩) (c21 : PySem.W.codeIn K cd21 "Taker.take" = true) (k21 : PySem.W.keepIn K (.ref f21) = true)
    (a22 : PySem.W.nsIn K mainGlobals "_law_brought" = some (some (.ref f22))) (l22 : K.lookup f22 = some ⟨oc22, od22, .func (PySem.W.fnOf "_law_brought" "_law_brought" (defArgs s_l_brought) (defBody s_l_brought) (defScope s_l_brought) .none kV22 dc22 pm22 an22 cd22 ct22), sl22⟩) (c22 : PySem.W.codeIn K cd22 "_law_brought" = true) (k22 : PySem.W.keepIn K (.ref f22) = true)
    (a23 : PySem.W.nsIn K mainGlobals "_law_mixed" = some (some (.ref f23))) (l23 : K.lookup f23 = some ⟨oc23, od23, .func (PySem.W.fnOf "_law_mixed" "_law_mixed" (defArgs s_l_mixed) (defBody s_l_mixed) (defScope s_l_mixed) .none kV23 dc23 pm23 an23 cd23 ct23), sl23⟩) (c23 : PySem.W.codeIn K cd23 "_law_mixed" = true) (k23 : PySem.W.keepIn K (.ref f23) = true)
    (a24 : PySem.W.nsIn K mainGlobals "_law_next" = some (some (.ref f24))) (l24 : K.lookup f24 = some ⟨oc24, od24, .func (PySem.W.fnOf "_law_next" "_law_next" (defArgs s_l_next) (defBody s_l_next) (defScope s_l_next) .none kV24 dc24 pm24 an24 cd24 ct24), sl24⟩) (c24 : PySem.W.codeIn K cd24 "_law_next" = true) (k24 : PySem.W.keepIn K (.ref f24) = true)
    (a25 : PySem.W.nsIn K mainGlobals "_law_pick" = some (some (.ref f25))) (l25 : K.lookup f25 = some ⟨oc25, od25, .func (PySem.W.fnOf "_law_pick" "_law_pick" (defArgs s_l_pick) (defBody s_l_pick) (defScope s_l_pick) .none kV25 dc25 pm25 an25 cd25 ct25), sl25⟩) (c25 : PySem.W.codeIn K cd25 "_law_pick" = true) (k25 : PySem.W.keepIn K (.ref f25) = true)
    (a26 : PySem.W.nsIn K mainGlobals "_law_thing" = some (some (.ref f26))) (l26 : K.lookup f26 = some ⟨oc26, od26, .func (PySem.W.fnOf "_law_thing" "_law_thing" (defArgs s_l_thing) (defBody s_l_thing) (defScope s_l_thing) .none kV26 dc26 pm26 an26 cd26 ct26), sl26⟩) (c26 : PySem.W.codeIn K cd26 "_law_thing" = true) (k26 : PySem.W.keepIn K (.ref f26) = true)
    (a27 : PySem.W.nsIn K mainGlobals "_law_deed" = some (some (.ref f27))) (l27 : K.lookup f27 = some ⟨oc27, od27, .func (PySem.W.fnOf "_law_deed" "_law_deed" (defArgs s_l_deed) (defBody s_l_deed) (defScope s_l_deed) .none kV27 dc27 pm27 an27 cd27 ct27), sl27⟩) (c27 : PySem.W.codeIn K cd27 "_law_deed" = true) (k27 : PySem.W.keepIn K (.ref f27) = true)
    (a28 : PySem.W.nsIn K mainGlobals "_law_draw" = some (some (.ref f28))) (l28 : K.lookup f28 = some ⟨oc28, od28, .func (PySem.W.fnOf "_law_draw" "_law_draw" (defArgs s_l_draw) (defBody s_l_draw) (defScope s_l_draw) .none kV28 dc28 pm28 an28 cd28 ct28), sl28⟩) (c28 : PySem.W.codeIn K cd28 "_law_draw" = true) (k28 : PySem.W.keepIn K (.ref f28) = true)
    (a29 : PySem.W.findIn K (.ref ca_Giver) "answered" = some (some (.ref f29))) (i29 : PySem.W.isFn K (.ref f29) = true) (l29 : K.lookup f29 = some ⟨oc29, od29, .func (PySem.W.fnOf "answered" "Giver.answered" (defArgs s_Giver_answered) (defBody s_Giver_answered) (defScope s_Giver_answered) .none kV29 dc29 pm29 an29 cd29 ct29), sl29⟩) (c29 : PySem.W.codeIn K cd29 "Giver.answered" = true) (k29 : PySem.W.keepIn K (.ref f29) = true)
    (a30 : PySem.W.findIn K (.ref ca_Giver) "left" = some (some (.ref f30))) (i30 : PySem.W.isFn K (.ref f30) = true) (l30 : K.lookup f30 = some ⟨oc30, od30, .func (PySem.W.fnOf "left" "Giver.left" (defArgs s_Giver_left) (defBody s_Giver_left) (defScope s_Giver_left) .none kV30 dc30 pm30 an30 cd30 ct30), sl30⟩) (c30 : PySem.W.codeIn K cd30 "Giver.left" = true) (k30 : PySem.W.keepIn K (.ref f30) = true)
    (a31 : PySem.W.findIn K (.ref ca_Taker) "ended" = some (some (.ref f31))) (i31 : PySem.W.isFn K (.ref f31) = true) (l31 : K.lookup f31 = some ⟨oc31, od31, .func (PySem.W.fnOf "ended" "Taker.ended" (defArgs s_Taker_ended) (defBody s_Taker_ended) (defScope s_Taker_ended) .none kV31 dc31 pm31 an31 cd31 ct31), sl31⟩) (c31 : PySem.W.codeIn K cd31 "Taker.ended" = true) (k31 : PySem.W.keepIn K (.ref f31) = true)
    (a32 : PySem.W.findIn K (.ref ca_Taker) "ready" = some (some (.ref f32))) (i32 : PySem.W.isFn K (.ref f32) = true) (l32 : K.lookup f32 = some ⟨oc32, od32, .func (PySem.W.fnOf "ready" "Taker.ready" (defArgs s_Taker_ready) (defBody s_Taker_ready) (defScope s_Taker_ready) .none kV32 dc32 pm32 an32 cd32 ct32), sl32⟩) (c32 : PySem.W.codeIn K cd32 "Taker.ready" = true) (k32 : PySem.W.keepIn K (.ref f32) = true)
    (a33 : PySem.W.nsIn K mainGlobals "_law_right" = some (some (.ref f33))) (l33 : K.lookup f33 = some ⟨oc33, od33, .func (PySem.W.fnOf "_law_right" "_law_right" (defArgs s_l_right) (defBody s_l_right) (defScope s_l_right) .none kV33 dc33 pm33 an33 cd33 ct33), sl33⟩) (c33 : PySem.W.codeIn K cd33 "_law_right" = true) (k33 : PySem.W.keepIn K (.ref f33) = true)
    (a34 : PySem.W.nsIn K mainGlobals "_law_through" = some (some (.ref f34))) (l34 : K.lookup f34 = some ⟨oc34, od34, .func (PySem.W.fnOf "_law_through" "_law_through" (defArgs s_l_through) (defBody s_l_through) (defScope s_l_through) .none kV34 dc34 pm34 an34 cd34 ct34), sl34⟩) (c34 : PySem.W.codeIn K cd34 "_law_through" = true) (k34 : PySem.W.keepIn K (.ref f34) = true)
    (a35 : PySem.W.findIn K (.ref ca_Giver) "__init__" = some (some (.ref f35))) (i35 : PySem.W.isFn K (.ref f35) = true) (l35 : K.lookup f35 = some ⟨oc35, od35, .func (PySem.W.fnOf "__init__" "Giver.__init__" (defArgs s_Giver___init__) (defBody s_Giver___init__) (defScope s_Giver___init__) .none kV35 dc35 pm35 an35 cd35 ct35), sl35⟩) (c35 : PySem.W.codeIn K cd35 "Giver.__init__" = true) (k35 : PySem.W.keepIn K (.ref f35) = true)
    (a36 : PySem.W.findIn K (.ref ca_Taker) "__init__" = some (some (.ref f36))) (i36 : PySem.W.isFn K (.ref f36) = true) (l36 : K.lookup f36 = some ⟨oc36, od36, .func (PySem.W.fnOf "__init__" "Taker.__init__" (defArgs s_Taker___init__) (defBody s_Taker___init__) (defScope s_Taker___init__) .none kV36 dc36 pm36 an36 cd36 ct36), sl36⟩) (c36 : PySem.W.codeIn K cd36 "Taker.__init__" = true) (k36 : PySem.W.keepIn K (.ref f36) = true)
    (a37 : PySem.W.nsIn K mainGlobals "_law_first" = some (some (.ref f37))) (l37 : K.lookup f37 = some ⟨oc37, od37, .func (PySem.W.fnOf "_law_first" "_law_first" (defArgs s_l_first) (defBody s_l_first) (defScope s_l_first) .none kV37 dc37 pm37 an37 cd37 ct37), sl37⟩) (c37 : PySem.W.codeIn K cd37 "_law_first" = true) (k37 : PySem.W.keepIn K (.ref f37) = true)
    (a38 : PySem.W.nsIn K mainGlobals "_law_world" = some (some (.ref f38))) (l38 : K.lookup f38 = some ⟨oc38, od38, .func (PySem.W.fnOf "_law_world" "_law_world" (defArgs s_l_world) (defBody s_l_world) (defScope s_l_world) .none kV38 dc38 pm38 an38 cd38 ct38), sl38⟩) (c38 : PySem.W.codeIn K cd38 "_law_world" = true) (k38 : PySem.W.keepIn K (.ref f38) = true)
    (a39 : PySem.W.nsIn K mainGlobals "law" = some (some (.ref f39))) (l39 : K.lookup f39 = some ⟨oc39, od39, .func (PySem.W.fnOf "law" "law" (defArgs s_law) (defBody s_law) (defScope s_law) .none kV39 dc39 pm39 an39 cd39 ct39), sl39⟩) (c39 : PySem.W.codeIn K cd39 "law" = true) (k39 : PySem.W.keepIn K (.ref f39) = true)
    (z_all : PySem.W.nsIn K mainGlobals "all" = some none) (z_bool : PySem.W.nsIn K mainGlobals "bool" = some none) (z_enumerate : PySem.W.nsIn K mainGlobals "enumerate" = some none) (z_int : PySem.W.nsIn K mainGlobals "int" = some none) (z_isinstance : PySem.W.nsIn K mainGlobals "isinstance" = some none) (z_len : PySem.W.nsIn K mainGlobals "len" = some none) (z_max : PySem.W.nsIn K mainGlobals "max" = some none) (z_min : PySem.W.nsIn K mainGlobals "min" = some none) (z_range : PySem.W.nsIn K mainGlobals "range" = some none) (z_tuple : PySem.W.nsIn K mainGlobals "tuple" = some none) {t_LEAST_SIZE : Tok} (y_LEAST_SIZE : PySem.W.nsIn K mainGlobals "LEAST_SIZE" = some (some (.int 2 t_LEAST_SIZE))) {t_LONGEST : Tok} (y_LONGEST : PySem.W.nsIn K mainGlobals "LONGEST" = some (some (.int 16 t_LONGEST))) {t_MOST_BYTE : Tok} (y_MOST_BYTE : PySem.W.nsIn K mainGlobals "MOST_BYTE" = some (some (.int 255 t_MOST_BYTE))) {t_MOST_DATA : Tok} (y_MOST_DATA : PySem.W.nsIn K mainGlobals "MOST_DATA" = some (some (.int 1000 t_MOST_DATA))) {t_MOST_IN_PAIR : Tok} (y_MOST_IN_PAIR : PySem.W.nsIn K mainGlobals "MOST_IN_PAIR" = some (some (.int 200 t_MOST_IN_PAIR))) {t_MOST_KEPT : Tok} (y_MOST_KEPT : PySem.W.nsIn K mainGlobals "MOST_KEPT" = some (some (.int 512 t_MOST_KEPT))) {t_MOST_ROOM : Tok} (y_MOST_ROOM : PySem.W.nsIn K mainGlobals "MOST_ROOM" = some (some (.int 128 t_MOST_ROOM))) {t_MOST_SIZE : Tok} (y_MOST_SIZE : PySem.W.nsIn K mainGlobals "MOST_SIZE" = some (some (.int 4294967296 t_MOST_SIZE))) {t_SIZE_givers : Tok} (y_SIZE_givers : PySem.W.nsIn K mainGlobals "SIZE_givers" = some (some (.int 4294967296 t_SIZE_givers))) {t_SIZE_takers : Tok} (y_SIZE_takers : PySem.W.nsIn K mainGlobals "SIZE_takers" = some (some (.int 4294967296 t_SIZE_takers))) (e_NoData : PySem.W.excIn K ca_NoData [.type "ValueError", .type "Exception", .type "BaseException", .type "object"] "ValueError.__new__" = true) (k_NoData : PySem.W.keepIn K (.ref ca_NoData) = true) (b_NoData : PySem.W.subIn K (.ref ca_NoData) (.type "BaseException") = some true) (t_NoData : PySem.W.typeIn K (.ref ca_NoData) = some (.type "type")) (e_NoNumber : PySem.W.excIn K ca_NoNumber [.type "ValueError", .type "Exception", .type "BaseException", .type "object"] "ValueError.__new__" = true) (k_NoNumber : PySem.W.keepIn K (.ref ca_NoNumber) = true) (b_NoNumber : PySem.W.subIn K (.ref ca_NoNumber) (.type "BaseException") = some true) (t_NoNumber : PySem.W.typeIn K (.ref ca_NoNumber) = some (.type "type")) (e_NoSize : PySem.W.excIn K ca_NoSize [.type "ValueError", .type "Exception", .type "BaseException", .type "object"] "ValueError.__new__" = true) (k_NoSize : PySem.W.keepIn K (.ref ca_NoSize) = true) (b_NoSize : PySem.W.subIn K (.ref ca_NoSize) (.type "BaseException") = some true) (t_NoSize : PySem.W.typeIn K (.ref ca_NoSize) = some (.type "type")) (e_NoTick : PySem.W.excIn K ca_NoTick [.type "ValueError", .type "Exception", .type "BaseException", .type "object"] "ValueError.__new__" = true) (k_NoTick : PySem.W.keepIn K (.ref ca_NoTick) = true) (b_NoTick : PySem.W.subIn K (.ref ca_NoTick) (.type "BaseException") = some true) (t_NoTick : PySem.W.typeIn K (.ref ca_NoTick) = some (.type "type")) (cl_Giver : Cls K ca_Giver) (mk_Giver : PySem.W.makesIn K ca_Giver = true) (kc_Giver : PySem.W.keepIn K (.ref ca_Giver) = true) (n_Giver_base : PySem.W.findIn K (.ref ca_Giver) "base" = some none) (n_Giver_finished : PySem.W.findIn K (.ref ca_Giver) "finished" = some none) (n_Giver_first_wait : PySem.W.findIn K (.ref ca_Giver) "first_wait" = some none) (n_Giver_kept : PySem.W.findIn K (.ref ca_Giver) "kept" = some none) (n_Giver_most : PySem.W.findIn K (.ref ca_Giver) "most" = some none) (n_Giver_now : PySem.W.findIn K (.ref ca_Giver) "now" = some none) (n_Giver_pace : PySem.W.findIn K (.ref ca_Giver) "pace" = some none) (n_Giver_passed : PySem.W.findIn K (.ref ca_Giver) "passed" = some none) (n_Giver_reach : PySem.W.findIn K (.ref ca_Giver) "reach" = some none) (n_Giver_sent : PySem.W.findIn K (.ref ca_Giver) "sent" = some none) (n_Giver_since : PySem.W.findIn K (.ref ca_Giver) "since" = some none) (n_Giver_tried : PySem.W.findIn K (.ref ca_Giver) "tried" = some none) (n_Giver_wait : PySem.W.findIn K (.ref ca_Giver) "wait" = some none) (cl_Taker : Cls K ca_Taker) (mk_Taker : PySem.W.makesIn K ca_Taker = true) (kc_Taker : PySem.W.keepIn K (.ref ca_Taker) = true) (n_Taker_ahead : PySem.W.findIn K (.ref ca_Taker) "ahead" = some none) (n_Taker_over : PySem.W.findIn K (.ref ca_Taker) "over" = some none) (n_Taker_unread : PySem.W.findIn K (.ref ca_Taker) "unread" = some none) (n_Taker_wanted : PySem.W.findIn K (.ref ca_Taker) "wanted" = some none) (n_Taker_whole_room : PySem.W.findIn K (.ref ca_Taker) "whole_room" = some none) (in_Giver : DL.InC K ca_Giver) (in_Taker : DL.InC K ca_Taker) (x_NoData : ExcC K ca_NoData) (x_NoNumber : ExcC K ca_NoNumber) (x_NoSize : ExcC K ca_NoSize) (x_NoTick : ExcC K ca_NoTick) (i_Giver_bool : PySem.W.kitOne K (.ref ca_Giver) (.type "bool") = some false) (i_Giver_int : PySem.W.kitOne K (.ref ca_Giver) (.type "int") = some false) (i_Giver_tuple : PySem.W.kitOne K (.ref ca_Giver) (.type "tuple") = some false) (i_Taker_bool : PySem.W.kitOne K (.ref ca_Taker) (.type "bool") = some false) (i_Taker_int : PySem.W.kitOne K (.ref ca_Taker) (.type "int") = some false) (i_Taker_tuple : PySem.W.kitOne K (.ref ca_Taker) (.type "tuple") = some false) (i_NoData_bool : PySem.W.kitOne K (.ref ca_NoData) (.type "bool") = some false) (i_NoData_int : PySem.W.kitOne K (.ref ca_NoData) (.type "int") = some false) (i_NoData_tuple : PySem.W.kitOne K (.ref ca_NoData) (.type "tuple") = some false) (i_NoNumber_bool : PySem.W.kitOne K (.ref ca_NoNumber) (.type "bool") = some false) (i_NoNumber_int : PySem.W.kitOne K (.ref ca_NoNumber) (.type "int") = some false) (i_NoNumber_tuple : PySem.W.kitOne K (.ref ca_NoNumber) (.type "tuple") = some false) (i_NoSize_bool : PySem.W.kitOne K (.ref ca_NoSize) (.type "bool") = some false) (i_NoSize_int : PySem.W.kitOne K (.ref ca_NoSize) (.type "int") = some false) (i_NoSize_tuple : PySem.W.kitOne K (.ref ca_NoSize) (.type "tuple") = some false) (i_NoTick_bool : PySem.W.kitOne K (.ref ca_NoTick) (.type "bool") = some false) (i_NoTick_int : PySem.W.kitOne K (.ref ca_NoTick) (.type "int") = some false) (i_NoTick_tuple : PySem.W.kitOne K (.ref ca_NoTick) (.type "tuple") = some false) :
    ∃ fd : FuncData, (∀ (s : Shared) (v : Value), BindsTo s fd ⟨[v], []⟩ [("_law_script", v)]) ∧ ∀ base : Heap, K.In base → base.Ns mainGlobals mg → FnOk l.prog w K mg base CX0 7 fa fd ["_law_script"] (spLaw K) := by
  have e := hfa.symm.trans (PySem.W.mg_of X G a39)
  cases e
  obtain ⟨ca, q_Giver, q_NoData, q_NoNumber, q_NoSize, q_NoTick, q_Taker⟩ : ∃ ca : String → Addr, ca "Giver" = ca_Giver ∧ ca "NoData" = ca_NoData ∧ ca "NoNumber" = ca_NoNumber ∧ ca "NoSize" = ca_NoSize ∧ ca "NoTick" = ca_NoTick ∧ ca "Taker" = ca_Taker := ⟨fun x => if x = "Giver" then ca_Giver else if x = "NoData" then ca_NoData else if x = "NoNumber" then ca_NoNumber else if x = "NoSize" then ca_NoSize else if x = "NoTick" then ca_NoTick else if x = "Taker" then ca_Taker else 0, by simp, by simp, by simp, by simp, by simp, by simp⟩
  subst q_Giver q_NoData q_NoNumber q_NoSize q_NoTick q_Taker
  have T : Txt K mg ca := ⟨PySem.W.mg_of X G g_Giver, PySem.W.mg_of X G g_NoData, PySem.W.mg_of X G g_NoNumber, PySem.W.mg_of X G g_NoSize, PySem.W.mg_of X G g_NoTick, PySem.W.mg_of X G g_Taker, e_NoData, k_NoData, b_NoData, t_NoData, e_NoNumber, k_NoNumber, b_NoNumber, t_NoNumber, e_NoSize, k_NoSize, b_NoSize, t_NoSize, e_NoTick, k_NoTick, b_NoTick, t_NoTick, cl_Giver, mk_Giver, kc_Giver, n_Giver_base, n_Giver_finished, n_Giver_first_wait, n_Giver_kept, n_Giver_most, n_Giver_now, n_Giver_pace, n_Giver_passed, n_Giver_reach, n_Giver_sent, n_Giver_since, n_Giver_tried, n_Giver_wait, cl_Taker, mk_Taker, kc_Taker, n_Taker_ahead, n_Taker_over, n_Taker_unread, n_Taker_wanted, n_Taker_whole_room, ⟨⟨in_Giver, by decide⟩, ⟨in_Taker, by decide⟩, trivial⟩, ⟨⟨x_NoData, by decide⟩, ⟨x_NoNumber, by decide⟩, ⟨x_NoSize, by decide⟩, ⟨x_NoTick, by decide⟩, trivial⟩, (by unfold tb_; exact .cons (by simpa [vOf, btn] using i_Giver_bool) (.cons (by simpa [vOf, btn] using i_Giver_int) (.cons (by simpa [vOf, btn] using i_Giver_tuple) (.cons (by simpa [vOf, btn] using i_Taker_bool) (.cons (by simpa [vOf, btn] using i_Taker_int) (.cons (by simpa [vOf, btn] using i_Taker_tuple) (.cons (by simpa [vOf, btn] using i_NoData_bool) (.cons (by simpa [vOf, btn] using i_NoData_int) (.cons (by simpa [vOf, btn] using i_NoData_tuple) (.cons (by simpa [vOf, btn] using i_NoNumber_bool) (.cons (by simpa [vOf, btn] using i_NoNumber_int) (.cons (by simpa [vOf, btn] using i_NoNumber_tuple) (.cons (by simpa [vOf, btn] using i_NoSize_bool) (.cons (by simpa [vOf, btn] using i_NoSize_int) (.cons (by simpa [vOf, btn] using i_NoSize_tuple) (.cons (by simpa [vOf, btn] using i_NoTick_bool) (.cons (by simpa [vOf, btn] using i_NoTick_int) (.cons (by simpa [vOf, btn] using i_NoTick_tuple) (.nil))))))))))))))))))), PySem.W.mg_none_of X G z_all, PySem.W.mg_none_of X G z_bool, PySem.W.mg_none_of X G z_enumerate, PySem.W.mg_none_of X G z_int, PySem.W.mg_none_of X G z_isinstance, PySem.W.mg_none_of X G z_len, PySem.W.mg_none_of X G z_max, PySem.W.mg_none_of X G z_min, PySem.W.mg_none_of X G z_range, PySem.W.mg_none_of X G z_tuple, ⟨_, PySem.W.mg_of X G y_LEAST_SIZE⟩, ⟨_, PySem.W.mg_of X G y_LONGEST⟩, ⟨_, PySem.W.mg_of X G y_MOST_BYTE⟩, ⟨_, PySem.W.mg_of X G y_MOST_DATA⟩, ⟨_, PySem.W.mg_of X G y_MOST_IN_PAIR⟩, ⟨_, PySem.W.mg_of X G y_MOST_KEPT⟩, ⟨_, PySem.W.mg_of X G y_MOST_ROOM⟩, ⟨_, PySem.W.mg_of X G y_MOST_SIZE⟩, ⟨_, PySem.W.mg_of X G y_SIZE_givers⟩, ⟨_, PySem.W.mg_of X G y_SIZE_takers⟩, True.intro⟩
  have F0 := fun_mk (st := s_Giver_again) l0 c0 k0
  have b0 := F0.binds (ps := ["self", "tick"]) fun _ _ _ _ _ _ us hl => match us, hl with | [_, _], _ => rfl
  have F1 := fun_mk (st := s_Giver_is_counted) l1 c1 k1
  have b1 := F1.binds (ps := ["self"]) fun _ _ _ _ _ _ us hl => match us, hl with | [_], _ => rfl
  have F2 := fun_mk (st := s_Giver_count) l2 c2 k2
  have b2 := F2.binds (ps := ["self", "tick"]) fun _ _ _ _ _ _ us hl => match us, hl with | [_, _], _ => rfl
  have F3 := fun_mk (st := s_is_number) l3 c3 k3
  have b3 := F3.binds (ps := ["thing", "least"]) fun _ _ _ _ _ _ us hl => match us, hl with | [_, _], _ => rfl
  have F4 := fun_mk (st := s_Giver_need_tick) l4 c4 k4
  have b4 := F4.binds (ps := ["self", "tick"]) fun _ _ _ _ _ _ us hl => match us, hl with | [_, _], _ => rfl
  have F5 := fun_mk (st := s_need_number) l5 c5 k5
  have b5 := F5.binds (ps := ["number", "size"]) fun _ _ _ _ _ _ us hl => match us, hl with | [_, _], _ => rfl
  have F6 := fun_mk (st := s_need_size) l6 c6 k6
  have b6 := F6.binds (ps := ["size"]) fun _ _ _ _ _ _ us hl => match us, hl with | [_], _ => rfl
  have F7 := fun_mk (st := s_moved) l7 c7 k7
  have b7 := F7.binds (ps := ["number", "by", "size"]) fun _ _ _ _ _ _ us hl => match us, hl with | [_, _, _], _ => rfl
  have F8 := fun_mk (st := s_Giver_next_number) l8 c8 k8
  have b8 := F8.binds (ps := ["self"]) fun _ _ _ _ _ _ us hl => match us, hl with | [_], _ => rfl
  have F9 := fun_mk (st := s_Giver_due) l9 c9 k9
  have b9 := F9.binds (ps := ["self", "tick"]) fun _ _ _ _ _ _ us hl => match us, hl with | [_, _], _ => rfl
  have F10 := fun_mk (st := s_Giver_finish) l10 c10 k10
  have b10 := F10.binds (ps := ["self"]) fun _ _ _ _ _ _ us hl => match us, hl with | [_], _ => rfl
  have F11 := fun_mk (st := s_far) l11 c11 k11
  have b11 := F11.binds (ps := ["one", "other", "size"]) fun _ _ _ _ _ _ us hl => match us, hl with | [_, _, _], _ => rfl
  have F12 := fun_mk (st := s_Giver_heard) l12 c12 k12
  have b12 := F12.binds (ps := ["self", "answer", "room", "tick"]) fun _ _ _ _ _ _ us hl => match us, hl with | [_, _, _, _], _ => rfl
  have F13 := fun_mk (st := s_is_whole) l13 c13 k13
  have b13 := F13.binds (ps := ["thing", "least", "most"]) fun _ _ _ _ _ _ us hl => match us, hl with | [_, _, _], _ => rfl
  have F14 := fun_mk (st := s_is_data) l14 c14 k14
  have b14 := F14.binds (ps := ["thing"]) fun _ _ _ _ _ _ us hl => match us, hl with | [_], _ => rfl
  have F15 := fun_mk (st := s_Giver_write) l15 c15 k15
  have b15 := F15.binds (ps := ["self", "data"]) fun _ _ _ _ _ _ us hl => match us, hl with | [_, _], _ => rfl
  have F16 := fun_mk (st := s_is_within) l16 c16 k16
  have b16 := F16.binds (ps := ["thing", "least", "most"]) fun _ _ _ _ _ _ us hl => match us, hl with | [_, _, _], _ => rfl
  have F17 := fun_mk (st := s_Taker_read) l17 c17 k17
  have b17 := F17.binds (ps := ["self", "many"]) fun _ _ _ _ _ _ us hl => match us, hl with | [_, _], _ => rfl
  have F18 := fun_mk (st := s_Taker_come_ready) l18 c18 k18
  have b18 := F18.binds (ps := ["self", "item"]) fun _ _ _ _ _ _ us hl => match us, hl with | [_, _], _ => rfl
  have F19 := fun_mk (st := s_Taker_free) l19 c19 k19
  have b19 := F19.binds (ps := ["self"]) fun _ _ _ _ _ _ us hl => match us, hl with | [_], _ => rfl
  have F20 := fun_mk (st := s_Taker_wants) l20 c20 k20
  have b20 := F20.binds (ps := ["self"]) fun _ _ _ _ _ _ us hl => match us, hl with | [_], _ => rfl
  have F21 := fun_mk (st := s_Taker_take) l21 c21 k21
  have b21 := F21.binds (ps := ["self", "number", "items"]) fun _ _ _ _ _ _ us hl => match us, hl with | [_, _, _], _ => rfl
  have F22 := fun_mk (st := s_l_brought) l22 c22 k22
  have b22 := F22.binds (ps := ["_law_world_here", "_law_thing_here"]) fun _ _ _ _ _ _ us hl => match us, hl with | [_, _], _ => rfl
  have F23 := fun_mk (st := s_l_mixed) l23 c23 k23
  have b23 := F23.binds (ps := ["_law_cell", "_law_k"]) fun _ _ _ _ _ _ us hl => match us, hl with | [_, _], _ => rfl
  have F24 := fun_mk (st := s_l_next) l24 c24 k24
  have b24 := F24.binds (ps := ["_law_draw_here", "_law_size"]) fun _ _ _ _ _ _ us hl => match us, hl with | [_, _], _ => rfl
  have F25 := fun_mk (st := s_l_pick) l25 c25 k25
  have b25 := F25.binds (ps := ["_law_draw_here", "_law_some"]) fun _ _ _ _ _ _ us hl => match us, hl with | [_, _], _ => rfl
  have F26 := fun_mk (st := s_l_thing) l26 c26 k26
  have b26 := F26.binds (ps := ["_law_draw_here", "_law_road"]) fun _ _ _ _ _ _ us hl => match us, hl with | [_, _], _ => rfl
  have F27 := fun_mk (st := s_l_deed) l27 c27 k27
  have b27 := F27.binds (ps := ["_law_world_here", "_law_draw_here"]) fun _ _ _ _ _ _ us hl => match us, hl with | [_, _], _ => rfl
  have F28 := fun_mk (st := s_l_draw) l28 c28 k28
  have b28 := F28.binds (ps := ["_law_script", "_law_k", "_law_count"]) fun _ _ _ _ _ _ us hl => match us, hl with | [_, _, _], _ => rfl
  have F29 := fun_mk (st := s_Giver_answered) l29 c29 k29
  have b29 := F29.binds (ps := ["self"]) fun _ _ _ _ _ _ us hl => match us, hl with | [_], _ => rfl
  have F30 := fun_mk (st := s_Giver_left) l30 c30 k30
  have b30 := F30.binds (ps := ["self"]) fun _ _ _ _ _ _ us hl => match us, hl with | [_], _ => rfl
  have F31 := fun_mk (st := s_Taker_ended) l31 c31 k31
  have b31 := F31.binds (ps := ["self"]) fun _ _ _ _ _ _ us hl => match us, hl with | [_], _ => rfl
  have F32 := fun_mk (st := s_Taker_ready) l32 c32 k32
  have b32 := F32.binds (ps := ["self"]) fun _ _ _ _ _ _ us hl => match us, hl with | [_], _ => rfl
  have F33 := fun_mk (st := s_l_right) l33 c33 k33
  have b33 := F33.binds (ps := ["_law_world_here"]) fun _ _ _ _ _ _ us hl => match us, hl with | [_], _ => rfl
  have F34 := fun_mk (st := s_l_through) l34 c34 k34
  have b34 := F34.binds (ps := ["_law_world_here"]) fun _ _ _ _ _ _ us hl => match us, hl with | [_], _ => rfl
  have F35 := fun_mk (st := s_Giver___init__) l35 c35 k35
  have b35 := F35.binds (ps := ["self", "first", "most", "wait"]) fun _ _ _ _ _ _ us hl => match us, hl with | [_, _, _, _], _ => rfl
  have F36 := fun_mk (st := s_Taker___init__) l36 c36 k36
  have b36 := F36.binds (ps := ["self", "first", "room"]) fun _ _ _ _ _ _ us hl => match us, hl with | [_, _, _], _ => rfl
  have F37 := fun_mk (st := s_l_first) l37 c37 k37
  have b37 := F37.binds (ps := ["_law_draw_here"]) fun _ _ _ _ _ _ us hl => match us, hl with | [_], _ => rfl
  have F38 := fun_mk (st := s_l_world) l38 c38 k38
  have b38 := F38.binds (ps := ["_law_script"]) fun _ _ _ _ _ _ us hl => match us, hl with | [_], _ => rfl
  have F39 := fun_mk (st := s_law) l39 c39 k39
  have b39 := F39.binds (ps := ["_law_script"]) fun _ _ _ _ _ _ us hl => match us, hl with | [_], _ => rfl
  refine ⟨PySem.W.fnOf "law" "law" (defArgs s_law) (defBody s_law) (defScope s_law) .none kV39 dc39 pm39 an39 cd39 ct39, fun s v => .of_eq rfl, fun base _ _ => ?_⟩
  have M_Giver_again := SM.Mt.of ⟨a0, i0, k0⟩ (ok_Giver_again (P := l.prog) (w := w) (mg := mg) (base := base) T F0 ) b0
  have M_Giver_is_counted := SM.Mt.of ⟨a1, i1, k1⟩ (ok_Giver_is_counted (P := l.prog) (w := w) (mg := mg) (base := base) T F1 ) b1
  have M_Giver_count := SM.Mt.of ⟨a2, i2, k2⟩ (ok_Giver_count (P := l.prog) (w := w) (mg := mg) (base := base) T F2 M_Giver_is_counted) b2
  have C_is_number := Dx.of2 (ok_is_number (P := l.prog) (w := w) (mg := mg) (base := base) T F3 ) F3 (PySem.W.mg_of X G a3) b3
  have M_Giver_need_tick := SM.Mt.of ⟨a4, i4, k4⟩ (ok_Giver_need_tick (P := l.prog) (w := w) (mg := mg) (base := base) T F4 C_is_number) b4
  have C_need_number := Dx.of2 (ok_need_number (P := l.prog) (w := w) (mg := mg) (base := base) T F5 ) F5 (PySem.W.mg_of X G a5) b5
  have C_need_size := Dx.of2 (ok_need_size (P := l.prog) (w := w) (mg := mg) (base := base) T F6 ) F6 (PySem.W.mg_of X G a6) b6
  have C_moved := Dx.of2 (ok_moved (P := l.prog) (w := w) (mg := mg) (base := base) T F7 C_need_number C_need_size) F7 (PySem.W.mg_of X G a7) b7
  have M_Giver_next_number := SM.Mt.of ⟨a8, i8, k8⟩ (ok_Giver_next_number (P := l.prog) (w := w) (mg := mg) (base := base) T F8 C_moved) b8
  have M_Giver_due := SM.Mt.of ⟨a9, i9, k9⟩ (ok_Giver_due (P := l.prog) (w := w) (mg := mg) (base := base) T F9 M_Giver_again M_Giver_count M_Giver_need_tick M_Giver_next_number) b9
  have M_Giver_finish := SM.Mt.of ⟨a10, i10, k10⟩ (ok_Giver_finish (P := l.prog) (w := w) (mg := mg) (base := base) T F10 ) b10
  have C_far := Dx.of2 (ok_far (P := l.prog) (w := w) (mg := mg) (base := base) T F11 C_need_number C_need_size) F11 (PySem.W.mg_of X G a11) b11
  have M_Giver_heard := SM.Mt.of ⟨a12, i12, k12⟩ (ok_Giver_heard (P := l.prog) (w := w) (mg := mg) (base := base) T F12 M_Giver_count M_Giver_need_tick C_far) b12
  have C_is_whole := Dx.of2 (ok_is_whole (P := l.prog) (w := w) (mg := mg) (base := base) T F13 ) F13 (PySem.W.mg_of X G a13) b13
  have C_is_data := Dx.of2 (ok_is_data (P := l.prog) (w := w) (mg := mg) (base := base) T F14 C_is_whole) F14 (PySem.W.mg_of X G a14) b14
  have M_Giver_write := SM.Mt.of ⟨a15, i15, k15⟩ (ok_Giver_write (P := l.prog) (w := w) (mg := mg) (base := base) T F15 C_is_data) b15
  have C_is_within := Dx.of2 (ok_is_within (P := l.prog) (w := w) (mg := mg) (base := base) T F16 ) F16 (PySem.W.mg_of X G a16) b16
  have M_Taker_read := SM.Mt.of ⟨a17, i17, k17⟩ (ok_Taker_read (P := l.prog) (w := w) (mg := mg) (base := base) T F17 C_is_within) b17
  have M_Taker_come_ready := SM.Mt.of ⟨a18, i18, k18⟩ (ok_Taker_come_ready (P := l.prog) (w := w) (mg := mg) (base := base) T F18 C_moved) b18
  have M_Taker_free := SM.Mt.of ⟨a19, i19, k19⟩ (ok_Taker_free (P := l.prog) (w := w) (mg := mg) (base := base) T F19 ) b19
  have M_Taker_wants := SM.Mt.of ⟨a20, i20, k20⟩ (ok_Taker_wants (P := l.prog) (w := w) (mg := mg) (base := base) T F20 M_Taker_free) b20
  have M_Taker_take := SM.Mt.of ⟨a21, i21, k21⟩ (ok_Taker_take (P := l.prog) (w := w) (mg := mg) (base := base) T F21 M_Taker_come_ready M_Taker_wants C_far C_moved) b21
  have C_l_brought := Dx.of2 (ok_l_brought (P := l.prog) (w := w) (mg := mg) (base := base) T F22 M_Taker_take M_Taker_wants) F22 (PySem.W.mg_of X G a22) b22
  have C_l_mixed := Dx.of2 (ok_l_mixed (P := l.prog) (w := w) (mg := mg) (base := base) T F23 ) F23 (PySem.W.mg_of X G a23) b23
  have C_l_next := Dx.of2 (ok_l_next (P := l.prog) (w := w) (mg := mg) (base := base) T F24 C_l_mixed) F24 (PySem.W.mg_of X G a24) b24
  have C_l_pick := Dx.of2 (ok_l_pick (P := l.prog) (w := w) (mg := mg) (base := base) T F25 C_l_next) F25 (PySem.W.mg_of X G a25) b25
  have C_l_thing := Dx.of2 (ok_l_thing (P := l.prog) (w := w) (mg := mg) (base := base) T F26 C_l_next) F26 (PySem.W.mg_of X G a26) b26
  have C_l_deed := Dx.of2 (ok_l_deed (P := l.prog) (w := w) (mg := mg) (base := base) T F27 M_Giver_due M_Giver_finish M_Giver_heard M_Giver_write M_Taker_read C_l_brought C_l_next C_l_pick C_l_thing) F27 (PySem.W.mg_of X G a27) b27
  have C_l_draw := Dx.of2 (ok_l_draw (P := l.prog) (w := w) (mg := mg) (base := base) T F28 C_l_mixed) F28 (PySem.W.mg_of X G a28) b28
  have M_Giver_answered := SM.Mt.of ⟨a29, i29, k29⟩ (ok_Giver_answered (P := l.prog) (w := w) (mg := mg) (base := base) T F29 ) b29
  have M_Giver_left := SM.Mt.of ⟨a30, i30, k30⟩ (ok_Giver_left (P := l.prog) (w := w) (mg := mg) (base := base) T F30 ) b30
  have M_Taker_ended := SM.Mt.of ⟨a31, i31, k31⟩ (ok_Taker_ended (P := l.prog) (w := w) (mg := mg) (base := base) T F31 ) b31
  have M_Taker_ready := SM.Mt.of ⟨a32, i32, k32⟩ (ok_Taker_ready (P := l.prog) (w := w) (mg := mg) (base := base) T F32 ) b32
  have C_l_right := Dx.of2 (ok_l_right (P := l.prog) (w := w) (mg := mg) (base := base) T F33 M_Giver_answered M_Giver_left M_Taker_ended M_Taker_ready M_Taker_wants) F33 (PySem.W.mg_of X G a33) b33
  have C_l_through := Dx.of2 (ok_l_through (P := l.prog) (w := w) (mg := mg) (base := base) T F34 M_Giver_due M_Giver_heard M_Giver_left M_Taker_ended M_Taker_read M_Taker_take M_Taker_wants) F34 (PySem.W.mg_of X G a34) b34
  have M_Giver := Mx.of ⟨mk_Giver, a35, i35, kc_Giver⟩ (ok_Giver___init__ (P := l.prog) (w := w) (mg := mg) (base := base) T F35 C_is_number) (PySem.W.mg_of X G g_Giver) b35
  have M_Taker := Mx.of ⟨mk_Taker, a36, i36, kc_Taker⟩ (ok_Taker___init__ (P := l.prog) (w := w) (mg := mg) (base := base) T F36 C_is_within) (PySem.W.mg_of X G g_Taker) b36
  have C_l_first := Dx.of2 (ok_l_first (P := l.prog) (w := w) (mg := mg) (base := base) T F37 C_l_next) F37 (PySem.W.mg_of X G a37) b37
  have C_l_world := Dx.of2 (ok_l_world (P := l.prog) (w := w) (mg := mg) (base := base) T F38 M_Giver M_Taker C_l_draw C_l_first C_l_pick) F38 (PySem.W.mg_of X G a38) b38
  exact (ok_law T F39 C_l_deed C_l_draw C_l_right C_l_through C_l_world).imp law_imp
theorem walk {l : PySem.W.OpenLaw} {q : Program} {loose : List Str} {XP : (Str → Option Value) → Heap → Prop} {YP : World → Heap → Prop} {d : DefRec} {K : Params → PySem.W.Frag} (hn : l.most = some 63) (hdf : d.params.defaults = [])
    (hY : ∀ (w : World) (h : Heap), YP w h → (K w.params).In h)
    (F : ∀ (w : World) (mg : Str → Option Value) (fa : Addr) (h : Heap), (K w.params).In h → h.Ns mainGlobals mg → mg d.name = some (.ref fa) →
      ∃ fd : FuncData, (∀ (s : Shared) (u : Value), BindsTo s fd ⟨[u], []⟩ [("_law_script", u)]) ∧ ∀ base : Heap, (K w.params).In base → base.Ns mainGlobals mg → FnOk l.prog w (K w.params) mg base CX0 7 fa fd ["_law_script"] (spLaw (K w.params))) :
    PySem.W.WalkO q loose XP YP l.row.toRowW d [] (fun f vs => PySem.call f vs) :=
  L2.walk_of (n := 63) (k := 7) (x := "_law_script") (CX := fun _ => CX0) (sp := fun w => spLaw (K w.params)) hn (by decide) hdf ⟨rfl, by decide, by decide⟩ hY F (fun _ _ a ns hl _ hS => ⟨a, ns, rfl, hS, hl, fun _ => rfl⟩) fun _ _ _ _ _ z => z
end Kk
open PySem PySem.W PyProof.Rows in
set_option maxRecDepth 100000 in
set_option maxHeartbeats 0 in
theorem PySem.Challenge.cw_surewire_k70_whole_stream_holds : PySem.Challenge.rw_surewire_k70_whole_stream.Holds := by
  w_on; o_law; k_head; (case hw => w_witness2)
  k_fill
  refine Kk.walk (l := PySem.Challenge.rw_surewire_k70_whole_stream) rfl rfl (fun w h Y => PySem.W.kIn_of Y) ?F
  case F =>
    intro w mg fa h KX G hmg
    refine' Kk.all_mk KX G hmg ?g_Giver ?g_NoData ?g_NoNumber ?g_NoSize ?g_NoTick ?g_Taker ?a0 ?i0 ?l0 ?c0 ?k0 ?a1 ?i1 ?l1 ?c1 ?k1 ?a2 ?i2 ?l2 ?c2 ?k2 ?a3 ?l3 ?c3 ?k3 ?a4 ?i4 ?l4 ?c4 ?k4 ?a5 ?l5 ?c5 ?k5 ?a6 ?l6 ?c6 ?k6 ?a7 ?l7 ?c7 ?k7 ?a8 ?i8 ?l8 ?c8 ?k8 ?a9 ?i9 ?l9 ?c9 ?k9 ?a10 ?i10 ?l10 ?c10 ?k10 ?a11 ?l11 ?c11 ?k11 ?a12 ?i12 ?l12 ?c12 ?k12 ?a13 ?l13 ?c13 ?k13 ?a14 ?l14 ?c14 ?k14 ?a15 ?i15 ?l15 ?c15 ?k15 ?a16 ?l16 ?c16 ?k16 ?a17 ?i17 ?l17 ?c17 ?k17 ?a18 ?i18 ?l18 ?c18 ?k18 ?a19 ?i19 ?l19 ?c19 ?k19 ?a20 ?i20 ?l20 ?c20 ?k20 ?a21 ?i21 ?l21 ?c21 ?k21 ?a22 ?l22 ?c22 ?k22 ?a23 ?l23 ?c23 ?k23 ?a24 ?l24 ?c24 ?k24 ?a25 ?l25 ?c25 ?k25 ?a26 ?l26 ?c26 ?k26 ?a27 ?l27 ?c27 ?k27 ?a28 ?l28 ?c28 ?k28 ?a29 ?i29 ?l29 ?c29 ?k29 ?a30 ?i30 ?l30 ?c30 ?k30 ?a31 ?i31 ?l31 ?c31 ?k31 ?a32 ?i32 ?l32 ?c32 ?k32 ?a33 ?l33 ?c33 ?k33 ?a34 ?l34 ?c34 ?k34 ?a35 ?i35 ?l35 ?c35 ?k35 ?a36 ?i36 ?l36 ?c36 ?k36 ?a37 ?l37 ?c37 ?k37 ?a38 ?l38 ?c38 ?k38 ?a39 ?l39 ?c39 ?k39 ?z_all ?z_bool ?z_enumerate ?z_int ?z_isinstance ?z_len ?z_max ?z_min ?z_range ?z_tuple ?y_LEAST_SIZE ?y_LONGEST ?y_MOST_BYTE ?y_MOST_DATA ?y_MOST_IN_PAIR ?y_MOST_KEPT ?y_MOST_ROOM ?y_MOST_SIZE ?y_SIZE_givers ?y_SIZE_takers ?e_NoData ?k_NoData ?b_NoData ?t_NoData ?e_NoNumber ?k_NoNumber ?b_NoNumber ?t_NoNumber ?e_NoSize ?k_NoSize ?b_NoSize ?t_NoSize ?e_NoTick ?k_NoTick ?b_NoTick ?t_NoTick ?cl_Giver ?mk_Giver ?kc_Giver ?n_Giver_base ?n_Giver_finished ?n_Giver_first_wait ?n_Giver_kept ?n_Giver_most ?n_Giver_now ?n_Giver_pace ?n_Giver_passed ?n_Giver_reach ?n_Giver_sent ?n_Giver_since ?n_Giver_tried ?n_Giver_wait ?cl_Taker ?mk_Taker ?kc_Taker ?n_Taker_ahead ?n_Taker_over ?n_Taker_unread ?n_Taker_wanted ?n_Taker_whole_room ?in_Giver ?in_Taker ?x_NoData ?x_NoNumber ?x_NoSize ?x_NoTick ?i_Giver_bool ?i_Giver_int ?i_Giver_tuple ?i_Taker_bool ?i_Taker_int ?i_Taker_tuple ?i_NoData_bool ?i_NoData_int ?i_NoData_tuple ?i_NoNumber_bool ?i_NoNumber_int ?i_NoNumber_tuple ?i_NoSize_bool ?i_NoSize_int ?i_NoSize_tuple ?i_NoTick_bool ?i_NoTick_int ?i_NoTick_tuple
    (case g_Giver => k_is)
    (case g_NoData => k_is)
    (case g_NoNumber => k_is)
    (case g_NoSize => k_is)
    (case g_NoTick => k_is)
    (case g_Taker => k_is)
    (case a0 => k_is)
    (case i0 => k_is)
    (case l0 => k_is)
    (case c0 => k_is)
    (case k0 => k_is)
    (case a1 => k_is)
    (case i1 => k_is)
    (case l1 => k_is)
    (case c1 => k_is)
    (case k1 => k_is)
    (case a2 => k_is)
    (case i2 => k_is)
    (case l2 => k_is)
    (case c2 => k_is)
    (case k2 => k_is)
    (case a3 => k_is)
    (case l3 => k_is)
    (case c3 => k_is)
    (case k3 => k_is)
    (case a4 => k_is)
    (case i4 => k_is)
    (case l4 => k_is)
    (case c4 => k_is)
    (case k4 => k_is)
    (case a5 => k_is)
    (case l5 => k_is)
    (case c5 => k_is)
    (case k5 => k_is)
    (case a6 => k_is)
    (case l6 => k_is)
    (case c6 => k_is)
    (case k6 => k_is)
    (case a7 => k_is)
    (case l7 => k_is)
    (case c7 => k_is)
    (case k7 => k_is)
    (case a8 => k_is)
    (case i8 => k_is)
    (case l8 => k_is)
    (case c8 => k_is)
    (case k8 => k_is)
    (case a9 => k_is)
    (case i9 => k_is)
    (case l9 => k_is)
    (case c9 => k_is)
    (case k9 => k_is)
    (case a10 => k_is)
    (case i10 => k_is)
    (case l10 => k_is)
    (case c10 => k_is)
    (case k10 => k_is)
    (case a11 => k_is)
    (case l11 => k_is)
    (case c11 => k_is)
    (case k11 => k_is)
    (case a12 => k_is)
    (case i12 => k_is)
    (case l12 => k_is)
    (case c12 => k_is)
    (case k12 => k_is)
    (case a13 => k_is)
    (case l13 => k_is)
    (case c13 => k_is)
    (case k13 => k_is)
    (case a14 => k_is)
    (case l14 => k_is)
    (case c14 => k_is)
    (case k14 => k_is)
    (case a15 => k_is)
    (case i15 => k_is)
    (case l15 => k_is)
    (case c15 => k_is)
    (case k15 => k_is)
    (case a16 => k_is)
    (case l16 => k_is)
    (case c16 => k_is)
    (case k16 => k_is)
    (case a17 => k_is)
    (case i17 => k_is)
    (case l17 => k_is)
    (case c17 => k_is)
    (case k17 => k_is)
    (case a18 => k_is)
    (case i18 => k_is)
    (case l18 => k_is)
    (case c18 => k_is)
    (case k18 => k_is)
    (case a19 => k_is)
    (case i19 => k_is)
    (case l19 => k_is)
    (case c19 => k_is)
    (case k19 => k_is)
    (case a20 => k_is)
    (case i20 => k_is)
    (case l20 => k_is)
    (case c20 => k_is)
    (case k20 => k_is)
    (case a21 => k_is)
    (case i21 => k_is)
    (case l21 => k_is)
    (case c21 => k_is)
    (case k21 => k_is)
    (case a22 => k_is)
    (case l22 => k_is)
    (case c22 => k_is)
    (case k22 => k_is)
    (case a23 => k_is)
    (case l23 => k_is)
    (case c23 => k_is)
    (case k23 => k_is)
    (case a24 => k_is)
    (case l24 => k_is)
    (case c24 => k_is)
    (case k24 => k_is)
    (case a25 => k_is)
    (case l25 => k_is)
    (case c25 => k_is)
    (case k25 => k_is)
    (case a26 => k_is)
    (case l26 => k_is)
    (case c26 => k_is)
    (case k26 => k_is)
    (case a27 => k_is)
    (case l27 => k_is)
    (case c27 => k_is)
    (case k27 => k_is)
    (case a28 => k_is)
    (case l28 => k_is)
    (case c28 => k_is)
    (case k28 => k_is)
    (case a29 => k_is)
    (case i29 => k_is)
    (case l29 => k_is)
    (case c29 => k_is)
    (case k29 => k_is)
    (case a30 => k_is)
    (case i30 => k_is)
    (case l30 => k_is)
    (case c30 => k_is)
    (case k30 => k_is)
    (case a31 => k_is)
    (case i31 => k_is)
    (case l31 => k_is)
    (case c31 => k_is)
    (case k31 => k_is)
    (case a32 => k_is)
    (case i32 => k_is)
    (case l32 => k_is)
    (case c32 => k_is)
    (case k32 => k_is)
    (case a33 => k_is)
    (case l33 => k_is)
    (case c33 => k_is)
    (case k33 => k_is)
    (case a34 => k_is)
    (case l34 => k_is)
    (case c34 => k_is)
    (case k34 => k_is)
    (case a35 => k_is)
    (case i35 => k_is)
    (case l35 => k_is)
    (case c35 => k_is)
    (case k35 => k_is)
    (case a36 => k_is)
    (case i36 => k_is)
    (case l36 => k_is)
    (case c36 => k_is)
    (case k36 => k_is)
    (case a37 => k_is)
    (case l37 => k_is)
    (case c37 => k_is)
    (case k37 => k_is)
    (case a38 => k_is)
    (case l38 => k_is)
    (case c38 => k_is)
    (case k38 => k_is)
    (case a39 => k_is)
    (case l39 => k_is)
    (case c39 => k_is)
    (case k39 => k_is)
    (case z_all => k_is)
    (case z_bool => k_is)
    (case z_enumerate => k_is)
    (case z_int => k_is)
    (case z_isinstance => k_is)
    (case z_len => k_is)
    (case z_max => k_is)
    (case z_min => k_is)
    (case z_range => k_is)
    (case z_tuple => k_is)
    (case y_LEAST_SIZE => k_is)
    (case y_LONGEST => k_is)
    (case y_MOST_BYTE => k_is)
    (case y_MOST_DATA => k_is)
    (case y_MOST_IN_PAIR => k_is)
    (case y_MOST_KEPT => k_is)
    (case y_MOST_ROOM => k_is)
    (case y_MOST_SIZE => k_is)
    (case y_SIZE_givers => k_is)
    (case y_SIZE_takers => k_is)
    (case e_NoData => k_exc)
    (case k_NoData => k_is)
    (case b_NoData => k_is)
    (case t_NoData => k_is)
    (case e_NoNumber => k_exc)
    (case k_NoNumber => k_is)
    (case b_NoNumber => k_is)
    (case t_NoNumber => k_is)
    (case e_NoSize => k_exc)
    (case k_NoSize => k_is)
    (case b_NoSize => k_is)
    (case t_NoSize => k_is)
    (case e_NoTick => k_exc)
    (case k_NoTick => k_is)
    (case b_NoTick => k_is)
    (case t_NoTick => k_is)
    (case cl_Giver => exact ⟨by k_is, by k_is, by k_is, by k_is⟩)
    (case mk_Giver => k_is)
    (case kc_Giver => k_is)
    (case n_Giver_base => k_is)
    (case n_Giver_finished => k_is)
    (case n_Giver_first_wait => k_is)
    (case n_Giver_kept => k_is)
    (case n_Giver_most => k_is)
    (case n_Giver_now => k_is)
    (case n_Giver_pace => k_is)
    (case n_Giver_passed => k_is)
    (case n_Giver_reach => k_is)
    (case n_Giver_sent => k_is)
    (case n_Giver_since => k_is)
    (case n_Giver_tried => k_is)
    (case n_Giver_wait => k_is)
    (case cl_Taker => exact ⟨by k_is, by k_is, by k_is, by k_is⟩)
    (case mk_Taker => k_is)
    (case kc_Taker => k_is)
    (case n_Taker_ahead => k_is)
    (case n_Taker_over => k_is)
    (case n_Taker_unread => k_is)
    (case n_Taker_wanted => k_is)
    (case n_Taker_whole_room => k_is)
    (case in_Giver => exact ⟨⟨by k_is, by k_is, by k_is, by k_is⟩, by k_is, by k_is, by k_is, by k_is⟩)
    (case in_Taker => exact ⟨⟨by k_is, by k_is, by k_is, by k_is⟩, by k_is, by k_is, by k_is, by k_is⟩)
    (case x_NoData => exact ⟨by k_is, by k_is, by k_is, by k_is, by k_is, by k_is, by k_is, by k_is⟩)
    (case x_NoNumber => exact ⟨by k_is, by k_is, by k_is, by k_is, by k_is, by k_is, by k_is, by k_is⟩)
    (case x_NoSize => exact ⟨by k_is, by k_is, by k_is, by k_is, by k_is, by k_is, by k_is, by k_is⟩)
    (case x_NoTick => exact ⟨by k_is, by k_is, by k_is, by k_is, by k_is, by k_is, by k_is, by k_is⟩)
    (case i_Giver_bool => first | k_is | kit_is)
    (case i_Giver_int => first | k_is | kit_is)
    (case i_Giver_tuple => first | k_is | kit_is)
    (case i_Taker_bool => first | k_is | kit_is)
    (case i_Taker_int => first | k_is | kit_is)
    (case i_Taker_tuple => first | k_is | kit_is)
    (case i_NoData_bool => first | k_is | kit_is)
    (case i_NoData_int => first | k_is | kit_is)
    (case i_NoData_tuple => first | k_is | kit_is)
    (case i_NoNumber_bool => first | k_is | kit_is)
    (case i_NoNumber_int => first | k_is | kit_is)
    (case i_NoNumber_tuple => first | k_is | kit_is)
    (case i_NoSize_bool => first | k_is | kit_is)
    (case i_NoSize_int => first | k_is | kit_is)
    (case i_NoSize_tuple => first | k_is | kit_is)
    (case i_NoTick_bool => first | k_is | kit_is)
    (case i_NoTick_int => first | k_is | kit_is)
    (case i_NoTick_tuple => first | k_is | kit_is)
#print axioms PySem.Challenge.cw_surewire_k70_whole_stream_holds
