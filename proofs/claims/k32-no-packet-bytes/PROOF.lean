import PyProof.Rows.All
import Wide.All
import OpenK.AllK
import Wide.FinOn
import HandS.ForMost
import HandS.IsInst
import HandS.Style
import HandS.Flow
import HandS.Exc
import HandS.TryOnly
import HandS.ExcOwn
import HandS.WordsExc
import HandS.WideBits
import HandS.Wide
import HandS.TupAny
import HandS.Walk
import HandS.ExcIs
import HandS.RaiseMore
import HandS.TupMul
import KE.KBits
import HandS.Zip
import HandS.Deep
import HandS.More
import HandS.SetFor
import HandS.FStrTup
import HandS.Ends
import PyProof.ReprRoads
import PyProof.FitsInt
import PyProof.CallFns
import PySem.Challenge.RW_surewire_k32_no_packet_bytes
set_option Elab.async false
set_option linter.all false
set_option maxRecDepth 100000
set_option maxHeartbeats 2000000
/-! ## the data layer: what a reading gives, told by plain data; what stands is told by slots -/
namespace DL
open PySem L2

/-- plain data -/
inductive D where
  | non | bl (b : Bool) | int (i : Int) | str (x : Str) | ty (n : String) | ref (a : Addr)
  | tup (l : List D) | lst (l : List D) | scr (l : List D)
  | dic (l : List (Key × D)) | dit (l : List (List Key × D))
  | obj (C : Addr) (fs : List (Str × D))
  | exc (C : Addr)
/-- what one owned object holds -/
inductive OB where
  | lst (l : List D) | dic (l : List (Key × D)) | dit (l : List (List Key × D)) | obj (C : Addr) (fs : List (Str × D))
def OB.d : OB → D
  | .lst l => .lst l
  | .dic l => .dic l
  | .dit l => .dit l
  | .obj C fs => .obj C fs
/-- what is known of a slot -/
inductive EV where
  | any | val (d : D) | own (o : OB)
abbrev Env := List EV

def Ex (H H' : Hp) : Prop := ∀ a o, H a = some o → H' a = some o
theorem Ex.refl (H : Hp) : Ex H H := fun _ _ h => h
theorem Ex.trans {H H1 H2 : Hp} (a : Ex H H1) (b : Ex H1 H2) : Ex H H2 := fun x o h => b x o (a x o h)
theorem Ex.new {H : Hp} {p : Addr} {o : HO} (h : H p = none) : Ex H (upd H p o) := fun a u e => by
  rw [upd_ne (ne_of_none e h)]; exact e
theorem Ex.back {H H' : Hp} {p : Addr} (e : Ex H H') (h : H' p = none) : H p = none := by
  cases h1 : H p with
  | none => rfl
  | some o => rw [e p o h1] at h; cases h
theorem Ex.both {F H : Hp} {p : Addr} {o : HO} (e : Ex F H) : Ex (upd F p o) (upd H p o) := fun a u h => by
  by_cases q : a = p
  · subst q; rw [upd_same] at h ⊢; exact h
  · rw [upd_ne q] at h ⊢; exact e a u h
theorem Ex.right {F H : Hp} {p : Addr} {o : HO} (e : Ex F H) (h : F p = none) : Ex F (upd H p o) := fun a u q => by
  rw [upd_ne (ne_of_none q h)]; exact e a u q
theorem Ex.left {F H : Hp} {p : Addr} {o : HO} (e : Ex F H) (h : H p = some o) : Ex (upd F p o) H := fun a u q => by
  by_cases z : a = p
  · subst z; rw [upd_same] at q; rw [h]; exact q
  · rw [upd_ne z] at q; exact e a u q
theorem Ex.rd {H H' : Hp} {a : Addr} {u : HO} (e : Ex H H') (h : Rd H a u) : Rd H' a u := by
  rcases h with h | ⟨o, h⟩
  · exact Or.inl (e a _ h)
  · exact Or.inr ⟨o, e a _ h⟩
theorem Ex.l {K : PySem.W.Frag} {H H' : Hp} {a : Addr} {xs : List V} (e : Ex H H') (h : SqL K H a xs) : SqL K H' a xs := by
  rcases h with h | h
  · exact Or.inl (e.rd h)
  · exact Or.inr h
theorem Ex.t {K : PySem.W.Frag} {H H' : Hp} {a : Addr} {xs : List V} (e : Ex H H') (h : SqT K H a xs) : SqT K H' a xs := by
  rcases h with h | h
  · exact Or.inl (e.rd h)
  · exact Or.inr h

/-- an exception of the class at C, caught and kept -/
def ExK (C a : Addr) : HO := .ext fun h => ∃ (oe : Obj) (vs : Array Value), h.get? a = some oe ∧ Zc (.ref C) none oe ∧ oe.data = .fields vs
mutual
/-- the value v is the data d, all of it standing in F -/
inductive Rep (K : PySem.W.Frag) (F : Hp) : V → D → Prop
  | non : Rep K F .non .non
  | bl (b : Bool) : Rep K F (.bl b) (.bl b)
  | int (i : Int) : Rep K F (.int i) (.int i)
  | str (x : Str) : Rep K F (.str x) (.str x)
  | ty (n : String) : Rep K F (.ty n) (.ty n)
  | ref (a : Addr) : Rep K F (.ref a) (.ref a)
  | tup {a : Addr} {vs : List V} {l : List D} : SqT K F a vs → RepL K F vs l → Rep K F (.ref a) (.tup l)
  | lst {a : Addr} {vs : List V} {l : List D} : F a = some (.lst vs) → RepL K F vs l → Rep K F (.ref a) (.lst l)
  | scr {a : Addr} {vs : List V} {l : List D} : SqL K F a vs → RepL K F vs l → Rep K F (.ref a) (.scr l)
  | dic {a : Addr} {ks : List Key} {vs : List V} {ds : List D} : F a = some (.dK (ks.zip vs)) → ks.length = ds.length → RepL K F vs ds → Rep K F (.ref a) (.dic (ks.zip ds))
  | dit {a : Addr} {ks : List (List Key)} {vs : List V} {ds : List D} : F a = some (.dT (ks.zip vs)) → ks.length = ds.length → RepL K F vs ds → Rep K F (.ref a) (.dit (ks.zip ds))
  | obj {a C dx : Addr} {ks : List Str} {vs : List V} {ds : List D} : F a = some (.ins C dx (ks.zip vs)) → ks.length = ds.length → RepL K F vs ds → Rep K F (.ref a) (.obj C (ks.zip ds))
  | exc {a C : Addr} : F a = some (ExK C a) → Rep K F (.ref a) (.exc C)
inductive RepL (K : PySem.W.Frag) (F : Hp) : List V → List D → Prop
  | nil : RepL K F [] []
  | cons {v : V} {vs : List V} {d : D} {ds : List D} : Rep K F v d → RepL K F vs ds → RepL K F (v :: vs) (d :: ds)
end
section
variable {K : PySem.W.Frag} {F F' : Hp}
mutual
theorem Rep.mono (e : Ex F F') : ∀ {v : V} {d : D}, Rep K F v d → Rep K F' v d
  | _, _, .non => .non
  | _, _, .bl b => .bl b
  | _, _, .int i => .int i
  | _, _, .str x => .str x
  | _, _, .ty n => .ty n
  | _, _, .ref a => .ref a
  | _, _, .tup h r => .tup (e.t h) (RepL.mono e r)
  | _, _, .lst h r => .lst (e _ _ h) (RepL.mono e r)
  | _, _, .scr h r => .scr (e.l h) (RepL.mono e r)
  | _, _, .dic h l r => .dic (e _ _ h) l (RepL.mono e r)
  | _, _, .dit h l r => .dit (e _ _ h) l (RepL.mono e r)
  | _, _, .obj h l r => .obj (e _ _ h) l (RepL.mono e r)
  | _, _, .exc h => .exc (e _ _ h)
theorem RepL.mono (e : Ex F F') : ∀ {vs : List V} {ds : List D}, RepL K F vs ds → RepL K F' vs ds
  | _, _, .nil => .nil
  | _, _, .cons h r => .cons (Rep.mono e h) (RepL.mono e r)
end
theorem RepL.length : ∀ {vs : List V} {ds : List D}, RepL K F vs ds → vs.length = ds.length
  | _, _, .nil => rfl
  | _, _, .cons _ r => by rw [List.length_cons, List.length_cons, r.length]
theorem RepL.get : ∀ {vs : List V} {ds : List D} {i : Nat} {d : D}, RepL K F vs ds → ds[i]? = some d → ∃ v, vs[i]? = some v ∧ Rep K F v d
  | _, _, _, _, .nil, h => by simp at h
  | _, _, 0, _, .cons h _, e => by simp at e; subst e; exact ⟨_, rfl, h⟩
  | _, _, i + 1, _, .cons _ r, e => by
    obtain ⟨v, h1, h2⟩ := RepL.get (i := i) r (by simpa using e)
    exact ⟨v, by simpa using h1, h2⟩
theorem RepL.get' : ∀ {vs : List V} {ds : List D} {i : Nat} {v : V}, RepL K F vs ds → vs[i]? = some v → ∃ d, ds[i]? = some d ∧ Rep K F v d
  | _, _, _, _, .nil, h => by simp at h
  | _, _, 0, _, .cons h _, e => by simp at e; subst e; exact ⟨_, rfl, h⟩
  | _, _, i + 1, _, .cons _ r, e => by
    obtain ⟨v, h1, h2⟩ := RepL.get' (i := i) r (by simpa using e)
    exact ⟨v, by simpa using h1, h2⟩
theorem RepL.append : ∀ {vs ws : List V} {ds es : List D}, RepL K F vs ds → RepL K F ws es → RepL K F (vs ++ ws) (ds ++ es)
  | _, _, _, _, .nil, s => s
  | _, _, _, _, .cons h r, s => .cons h (RepL.append r s)
theorem RepL.take : ∀ {vs : List V} {ds : List D} (n : Nat), RepL K F vs ds → RepL K F (vs.take n) (ds.take n)
  | _, _, 0, _ => .nil
  | _, _, _ + 1, .nil => .nil
  | _, _, n + 1, .cons h r => .cons h (RepL.take n r)
theorem RepL.drop : ∀ {vs : List V} {ds : List D} (n : Nat), RepL K F vs ds → RepL K F (vs.drop n) (ds.drop n)
  | _, _, 0, r => r
  | _, _, _ + 1, .nil => .nil
  | _, _, n + 1, .cons _ r => RepL.drop n r
theorem RepL.set {v : V} {d : D} (h : Rep K F v d) : ∀ {vs : List V} {ds : List D} (n : Nat), RepL K F vs ds → RepL K F (vs.set n v) (ds.set n d)
  | _, _, _, .nil => .nil
  | _, _, 0, .cons _ r => .cons h r
  | _, _, n + 1, .cons q r => .cons q (RepL.set h n r)
theorem RepL.reverse : ∀ {vs : List V} {ds : List D}, RepL K F vs ds → RepL K F vs.reverse ds.reverse
  | _, _, .nil => .nil
  | _, _, .cons h r => by
    rw [List.reverse_cons, List.reverse_cons]
    exact (RepL.reverse r).append (.cons h .nil)
theorem RepL.of_get : ∀ {vs : List V} {ds : List D}, vs.length = ds.length → (∀ (i : Nat) (v : V) (d : D), vs[i]? = some v → ds[i]? = some d → Rep K F v d) → RepL K F vs ds
  | [], [], _, _ => .nil
  | [], _ :: _, h, _ => by simp at h
  | _ :: _, [], h, _ => by simp at h
  | v :: vs, d :: ds, h, k => .cons (k 0 v d rfl rfl) (RepL.of_get (by simpa using h) fun i a b x y => k (i + 1) a b (by simpa using x) (by simpa using y))
/-- ints, truths, texts: the values are those of the data -/
theorem RepL.ints : ∀ {vs : List V} {ns : List Int}, RepL K F vs (ns.map D.int) → vs = ns.map V.int
  | _, [], h => by cases h; rfl
  | _, n :: r, h => by
    cases h with
    | cons q t => cases q; rw [RepL.ints t]; rfl
theorem RepL.bools : ∀ {vs : List V} {ns : List Bool}, RepL K F vs (ns.map D.bl) → vs = ns.map V.bl
  | _, [], h => by cases h; rfl
  | _, n :: r, h => by
    cases h with
    | cons q t => cases q; rw [RepL.bools t]; rfl
theorem RepL.strs : ∀ {vs : List V} {ns : List Str}, RepL K F vs (ns.map D.str) → vs = ns.map V.str
  | _, [], h => by cases h; rfl
  | _, n :: r, h => by
    cases h with
    | cons q t => cases q; rw [RepL.strs t]; rfl
theorem RepL.of_ints : ∀ {ns : List Int}, RepL K F (ns.map V.int) (ns.map D.int)
  | [] => .nil
  | n :: _ => .cons (.int n) RepL.of_ints
theorem RepL.of_strs : ∀ {ns : List Str}, RepL K F (ns.map V.str) (ns.map D.str)
  | [] => .nil
  | n :: _ => .cons (.str n) RepL.of_strs
/-- data that no heap is asked for -/
def flat : D → Bool
  | .non | .bl _ | .int _ | .str _ | .ty _ | .ref _ => true
  | _ => false
theorem Rep.flat {v : V} {d : D} (h : Rep K F v d) (f : flat d = true) : Rep K F' v d := by
  cases h <;> first | (cases f; done) | constructor
theorem RepL.flat : ∀ {vs : List V} {ds : List D}, RepL K F vs ds → ds.all DL.flat = true → RepL K F' vs ds
  | _, _, .nil, _ => .nil
  | _, _, .cons h r, f => by
    rw [List.all_cons, Bool.and_eq_true] at f
    exact .cons (h.flat f.1) (RepL.flat r f.2)
end

/-- the owned object at a holds o; its parts stand in F -/
def ORep (K : PySem.W.Frag) (F H : Hp) (a : Addr) : OB → Prop
  | .lst l => ∃ vs, H a = some (.lst vs) ∧ RepL K F vs l
  | .dic l => ∃ ks vs ds, H a = some (.dK (List.zip ks vs)) ∧ List.length ks = List.length ds ∧ RepL K F vs ds ∧ l = ks.zip ds
  | .dit l => ∃ ks vs ds, H a = some (.dT (List.zip ks vs)) ∧ List.length ks = List.length ds ∧ RepL K F vs ds ∧ l = ks.zip ds
  | .obj C fs => ∃ dx ks vs ds, H a = some (.ins C dx (List.zip ks vs)) ∧ List.length ks = List.length ds ∧ RepL K F vs ds ∧ fs = ks.zip ds
section
variable {K : PySem.W.Frag} {F F' H H' : Hp} {a : Addr} {o : OB}
theorem ORep.mono (h : ORep K F H a o) (e : Ex F F') (k : ∀ u, H a = some u → H' a = some u) : ORep K F' H' a o := by
  cases o with
  | lst l => obtain ⟨vs, x, r⟩ := h; exact ⟨vs, k _ x, r.mono e⟩
  | dic l => obtain ⟨ks, vs, ds, x, z, r, q⟩ := h; exact ⟨ks, vs, ds, k _ x, z, r.mono e, q⟩
  | dit l => obtain ⟨ks, vs, ds, x, z, r, q⟩ := h; exact ⟨ks, vs, ds, k _ x, z, r.mono e, q⟩
  | obj C fs => obtain ⟨dx, ks, vs, ds, x, z, r, q⟩ := h; exact ⟨dx, ks, vs, ds, k _ x, z, r.mono e, q⟩
theorem ORep.ho (h : ORep K F H a o) : ∃ u, H a = some u := by
  cases o with
  | lst l => obtain ⟨vs, x, r⟩ := h; exact ⟨_, x⟩
  | dic l => obtain ⟨ks, vs, ds, x, _⟩ := h; exact ⟨_, x⟩
  | dit l => obtain ⟨ks, vs, ds, x, _⟩ := h; exact ⟨_, x⟩
  | obj C fs => obtain ⟨dx, ks, vs, ds, x, _⟩ := h; exact ⟨_, x⟩
/-- an owned object, given up: from now on it stands -/
theorem ORep.give (h : ORep K F H a o) (n : F a = none) : ∃ u, H a = some u ∧ Rep K (upd F a u) (.ref a) o.d := by
  cases o with
  | lst l => obtain ⟨vs, x, r⟩ := h; exact ⟨_, x, .lst upd_same (r.mono (Ex.new n))⟩
  | dic l => obtain ⟨ks, vs, ds, x, z, r, q⟩ := h; subst q; exact ⟨_, x, .dic upd_same z (r.mono (Ex.new n))⟩
  | dit l => obtain ⟨ks, vs, ds, x, z, r, q⟩ := h; subst q; exact ⟨_, x, .dit upd_same z (r.mono (Ex.new n))⟩
  | obj C fs => obtain ⟨dx, ks, vs, ds, x, z, r, q⟩ := h; subst q; exact ⟨_, x, .obj upd_same z (r.mono (Ex.new n))⟩
end

/-- what grows between two moments: what stands (F) and all that is tracked (H) -/
structure Grow (F0 H0 F H : Hp) : Prop where
  gf : Ex F0 F
  gh : Ex H0 H
  fh : Ex F H
  gn : ∀ a, F a ≠ none → F0 a ≠ none ∨ H0 a = none
section
variable {F0 H0 F1 H1 F H : Hp}
theorem Grow.refl (e : Ex F H) : Grow F H F H := ⟨Ex.refl _, Ex.refl _, e, fun _ h => .inl h⟩
theorem Grow.trans (a : Grow F0 H0 F1 H1) (b : Grow F1 H1 F H) : Grow F0 H0 F H := ⟨a.gf.trans b.gf, a.gh.trans b.gh, b.fh, fun x h => by
  rcases b.gn x h with q | q
  · exact a.gn x q
  · exact .inr (a.gh.back q)⟩
/-- a new object, standing -/
theorem Grow.new {p : Addr} {o : HO} (g : Grow F0 H0 F H) (n : H p = none) : Grow F0 H0 (upd F p o) (upd H p o) := ⟨g.gf.trans (Ex.new (g.fh.back n)), g.gh.trans (Ex.new n), g.fh.both, fun x h => by
  by_cases q : x = p
  · subst q; exact .inr (g.gh.back n)
  · rw [upd_ne q] at h; exact g.gn x h⟩
/-- an owned new one is given up -/
theorem Grow.give {p : Addr} {o : HO} (g : Grow F0 H0 F H) (n : F p = none) (n0 : H0 p = none) (e : H p = some o) : Grow F0 H0 (upd F p o) H := ⟨g.gf.trans (Ex.new n), g.gh, g.fh.left e, fun x h => by
  by_cases q : x = p
  · subst q; exact .inr n0
  · rw [upd_ne q] at h; exact g.gn x h⟩
/-- an owned one changes -/
theorem Grow.mut {p : Addr} {o : HO} (g : Grow F0 H0 F H) (n : F p = none) (n0 : H0 p = none) : Grow F0 H0 F (upd H p o) := ⟨g.gf, g.gh.right n0, g.fh.right n, g.gn⟩
end

/-- where a def begins: what stands, what is tracked, which slots hold the objects handed in to be changed -/
structure Bs where
  F : Hp
  H : Hp
  fx : Nat → Option Addr
/-- the slots as they are known; oa i the address of what slot i owns -/
structure Sig (K : PySem.W.Frag) (b : Bs) (F : Hp) (oa : Nat → Addr) (σ : L2.St) (H : Hp) (env : Env) : Prop where
  g : Grow b.F b.H F H
  len : σ.length = env.length
  val : ∀ (i : Nat) (d : D), env[i]? = some (EV.val d) → ∃ v : V, σ[i]? = some (some v) ∧ Rep K F v d
  own : ∀ (i : Nat) (o : OB), env[i]? = some (EV.own o) → σ[i]? = some (some (.ref (oa i))) ∧ F (oa i) = none ∧ b.H (oa i) = none ∧ ORep K F H (oa i) o
  dist : ∀ (i j : Nat) (o u : OB), env[i]? = some (EV.own o) → env[j]? = some (.own u) → oa i = oa j → i = j
  fix : ∀ (i : Nat) (a : Addr), b.fx i = some a → oa i = a ∧ H a ≠ none
section
variable {K : PySem.W.Frag} {b : Bs} {F F1 H H1 : Hp} {oa : Nat → Addr} {σ : L2.St} {env env' : Env} {i : Nat} {v : V} {d : D} {o : OB}
/-- what is owned is not there where nothing is -/
theorem Sig.ne (S : Sig K b F oa σ H env) {p : Addr} (n : H p = none) (e : env[i]? = some (.own o)) : oa i ≠ p := fun q => by
  obtain ⟨_, _, _, r⟩ := S.own i o e
  obtain ⟨u, hu⟩ := r.ho
  rw [q, n] at hu; cases hu
/-- more stands, all else as it was -/
theorem Sig.grow (S : Sig K b F oa σ H env) (g : Grow F H F1 H1) : Sig K b F1 oa σ H1 env where
  g := S.g.trans g
  len := S.len
  val := fun i d e => by
    obtain ⟨v, h1, h2⟩ := S.val i d e
    exact ⟨v, h1, h2.mono g.gf⟩
  own := fun i o e => by
    obtain ⟨h1, h2, h3, h4⟩ := S.own i o e
    refine ⟨h1, ?_, h3, h4.mono g.gf fun u q => g.gh _ _ q⟩
    cases q : F1 (oa i) with
    | none => rfl
    | some u =>
      rcases g.gn (oa i) (by rw [q]; simp) with z | z
      · exact absurd h2 z
      · obtain ⟨w, hw⟩ := h4.ho
        rw [z] at hw; cases hw
  dist := S.dist
  fix := fun i c e => by
    obtain ⟨h1, h2⟩ := S.fix i c e
    refine ⟨h1, fun z => ?_⟩
    exact h2 (g.gh.back z)
theorem Sig.new {p : Addr} {u : HO} (S : Sig K b F oa σ H env) (n : H p = none) : Sig K b (upd F p u) oa σ (upd H p u) env := S.grow ((Grow.refl S.g.fh).new n)
/-- slot i holds v -/
theorem Sig.set (S : Sig K b F oa σ H env) (r : Rep K F v d) : Sig K b F oa (σ.set i (some v)) H (env.set i (.val d)) where
  g := S.g
  len := by simp [S.len]
  val := fun j e h => by
    by_cases q : i = j
    · subst q
      rw [List.getElem?_set] at h
      rw [List.getElem?_set]
      have l := S.len
      split at h
      · split at h
        · cases h
          refine ⟨v, ?_, r⟩
          simp_all
        · cases h
      · rename_i z; exact absurd rfl z
    · rw [List.getElem?_set_ne q] at h
      rw [List.getElem?_set_ne q]
      exact S.val j e h
  own := fun j e h => by
    by_cases q : i = j
    · subst q
      rw [List.getElem?_set] at h
      split at h
      · split at h <;> cases h
      · rename_i z; exact absurd rfl z
    · rw [List.getElem?_set_ne q] at h
      rw [List.getElem?_set_ne q]
      exact S.own j e h
  dist := fun j k e u h1 h2 => by
    have t : ∀ (j : Nat) (e : OB), (env.set i (.val d))[j]? = some (.own e) → env[j]? = some (.own e) := fun j e h => by
      by_cases q : i = j
      · subst q
        rw [List.getElem?_set] at h
        split at h
        · split at h <;> cases h
        · rename_i z; exact absurd rfl z
      · rw [List.getElem?_set_ne q] at h; exact h
    exact S.dist j k e u (t _ _ h1) (t _ _ h2)
  fix := S.fix
def oset (oa : Nat → Addr) (i : Nat) (a : Addr) : Nat → Addr := fun j => if j = i then a else oa j
theorem oset_same {a : Addr} : oset oa i a i = a := by unfold oset; rw [if_pos rfl]
theorem oset_ne {a : Addr} {j : Nat} (h : j ≠ i) : oset oa i a j = oa j := by unfold oset; rw [if_neg h]
/-- slot i owns the object at a (new to all other slots) -/
theorem Sig.setOwn {a : Addr} (S : Sig K b F oa σ H env) (hf : b.fx i = none) (n : F a = none) (n0 : b.H a = none) (ne : ∀ (j : Nat) (o : OB), j ≠ i → env[j]? = some (.own o) → oa j ≠ a) (r : ORep K F H a o) :
    Sig K b F (oset oa i a) (σ.set i (some (.ref a))) H (env.set i (.own o)) where
  g := S.g
  len := by simp [S.len]
  val := fun j e h => by
    by_cases q : i = j
    · subst q
      rw [List.getElem?_set] at h
      split at h
      · split at h <;> cases h
      · rename_i z; exact absurd rfl z
    · rw [List.getElem?_set_ne q] at h
      rw [List.getElem?_set_ne q]
      exact S.val j e h
  own := fun j e h => by
    by_cases q : i = j
    · subst q
      rw [List.getElem?_set] at h
      rw [List.getElem?_set, oset_same]
      have l := S.len
      split at h
      · split at h
        · cases h
          refine ⟨?_, n, n0, r⟩
          simp_all
        · cases h
      · rename_i z; exact absurd rfl z
    · rw [List.getElem?_set_ne q] at h
      rw [List.getElem?_set_ne q, oset_ne (Ne.symm q)]
      exact S.own j e h
  dist := fun j k e u h1 h2 z => by
    by_cases qj : i = j
    · by_cases qk : i = k
      · rw [← qj, ← qk]
      · rw [List.getElem?_set_ne qk] at h2
        rw [← qj, oset_same, oset_ne (Ne.symm qk)] at z
        exact absurd z.symm (ne k u (Ne.symm qk) h2)
    · rw [List.getElem?_set_ne qj] at h1
      by_cases qk : i = k
      · rw [← qk, oset_same, oset_ne (Ne.symm qj)] at z
        exact absurd z (ne j e (Ne.symm qj) h1)
      · rw [List.getElem?_set_ne qk] at h2
        rw [oset_ne (Ne.symm qj), oset_ne (Ne.symm qk)] at z
        exact S.dist j k e u h1 h2 z
  fix := fun j c e => by
    by_cases q : j = i
    · subst q; rw [hf] at e; cases e
    · rw [oset_ne q]; exact S.fix j c e
/-- what slot i owns is another thing now -/
theorem Sig.mut {a : Addr} {o' : OB} {u : HO} (S : Sig K b F oa σ H env) (e : env[i]? = some (.own o)) (ha : oa i = a) (r : ORep K F (upd H a u) a o') : Sig K b F oa σ (upd H a u) (env.set i (.own o')) where
  g := by subst ha; obtain ⟨_, h2, h3, _⟩ := S.own i o e; exact S.g.mut h2 h3
  len := by simp [S.len]
  val := fun j e h => by
    by_cases q : i = j
    · subst q
      rw [List.getElem?_set] at h
      split at h
      · split at h <;> cases h
      · rename_i z; exact absurd rfl z
    · rw [List.getElem?_set_ne q] at h
      exact S.val j e h
  own := fun j w h => by
    subst ha
    by_cases q : i = j
    · subst q
      obtain ⟨h1, h2, h3, _⟩ := S.own i o e
      rw [List.getElem?_set] at h
      split at h
      · split at h
        · cases h; exact ⟨h1, h2, h3, r⟩
        · cases h
      · rename_i z; exact absurd rfl z
    · rw [List.getElem?_set_ne q] at h
      obtain ⟨h1, h2, h3, h4⟩ := S.own j w h
      refine ⟨h1, h2, h3, h4.mono (Ex.refl _) fun x hx => ?_⟩
      rw [upd_ne fun z => q (S.dist j i w o h e z).symm]
      exact hx
  dist := fun j k w x h1 h2 z => by
    have t : ∀ (j : Nat) (w : OB), (env.set i (.own o'))[j]? = some (.own w) → ∃ w', env[j]? = some (.own w') := fun j w h => by
      by_cases q : i = j
      · subst q; exact ⟨o, e⟩
      · rw [List.getElem?_set_ne q] at h; exact ⟨w, h⟩
    obtain ⟨_, h1⟩ := t _ _ h1
    obtain ⟨_, h2⟩ := t _ _ h2
    exact S.dist j k _ _ h1 h2 z
  fix := fun i c e => by
    obtain ⟨h1, h2⟩ := S.fix i c e
    refine ⟨h1, fun z => h2 ?_⟩
    by_cases q : c = a
    · subst q; rw [upd_same] at z; cases z
    · rw [upd_ne q] at z; exact z
/-- the slot of what is owned, given up -/
theorem Sig.give (S : Sig K b F oa σ H env) (e : env[i]? = some (.own o)) : ∃ F', Sig K b F' oa σ H (env.set i (.val o.d)) ∧ Ex F F' := by
  obtain ⟨h1, h2, h3, h4⟩ := S.own i o e
  obtain ⟨u, hu, r⟩ := h4.give h2
  refine ⟨upd F (oa i) u, ⟨S.g.give h2 h3 hu, by simp [S.len], fun j w h => ?_, fun j w h => ?_, fun j k w x p q z => ?_, S.fix⟩, Ex.new h2⟩
  · by_cases q : i = j
    · subst q
      rw [List.getElem?_set] at h
      split at h
      · split at h
        · cases h; exact ⟨_, h1, r⟩
        · cases h
      · rename_i z; exact absurd rfl z
    · rw [List.getElem?_set_ne q] at h
      obtain ⟨v, x, y⟩ := S.val j w h
      exact ⟨v, x, y.mono (Ex.new h2)⟩
  · by_cases q : i = j
    · subst q
      rw [List.getElem?_set] at h
      split at h
      · split at h <;> cases h
      · rename_i z; exact absurd rfl z
    · rw [List.getElem?_set_ne q] at h
      obtain ⟨x1, x2, x3, x4⟩ := S.own j w h
      refine ⟨x1, ?_, x3, x4.mono (Ex.new h2) fun _ y => y⟩
      rw [upd_ne fun z => q (S.dist j i w o h e z).symm]
      exact x2
  · have t : ∀ (j : Nat) (e : OB), (env.set i (.val o.d))[j]? = some (.own e) → env[j]? = some (.own e) := fun j e h => by
      by_cases q : i = j
      · subst q
        rw [List.getElem?_set] at h
        split at h
        · split at h <;> cases h
        · rename_i z; exact absurd rfl z
      · rw [List.getElem?_set_ne q] at h; exact h
    exact S.dist j k w x (t _ _ p) (t _ _ q) z
/-- less is known: every slot as it was, or not told -/
def Env.le : Env → Env → Prop
  | [], [] => True
  | a :: r, b :: s => (b = .any ∨ b = a) ∧ Env.le r s
  | _, _ => False
theorem Env.le.get : ∀ {env env' : Env} {i : Nat} {x : EV}, Env.le env env' → env'[i]? = some x → x = .any ∨ env[i]? = some x
  | [], [], _, _, _, h => by simp at h
  | _ :: _, _ :: _, 0, _, l, h => by
    simp at h; subst h
    rcases l.1 with q | q
    · exact .inl q
    · exact .inr (by rw [q]; rfl)
  | _ :: r, _ :: s, i + 1, _, l, h => by
    rcases Env.le.get (i := i) l.2 (by simpa using h) with q | q
    · exact .inl q
    · exact .inr (by simpa using q)
  | [], _ :: _, _, _, l, _ => l.elim
  | _ :: _, [], _, _, l, _ => l.elim
theorem Env.le.length : ∀ {env env' : Env}, Env.le env env' → env.length = env'.length
  | [], [], _ => rfl
  | _ :: _, _ :: _, l => by rw [List.length_cons, List.length_cons, Env.le.length l.2]
  | [], _ :: _, l => l.elim
  | _ :: _, [], l => l.elim
theorem Env.le.rfl : ∀ {env : Env}, Env.le env env
  | [] => trivial
  | _ :: _ => ⟨.inr (by rfl), Env.le.rfl⟩
theorem Sig.le (S : Sig K b F oa σ H env) (l : Env.le env env') : Sig K b F oa σ H env' where
  g := S.g
  len := by rw [S.len, l.length]
  val := fun i d e => by
    rcases l.get e with q | q
    · cases q
    · exact S.val i d q
  own := fun i o e => by
    rcases l.get e with q | q
    · cases q
    · exact S.own i o q
  dist := fun i j o u e f z => by
    rcases l.get e with q | q
    · cases q
    · rcases l.get f with p | p
      · cases p
      · exact S.dist i j o u q p z
  fix := S.fix
/-- a new one that no slot owns stands from now on -/
theorem Sig.stand {a : Addr} {u : HO} (S : Sig K b F oa σ H env) (n : F a = none) (n0 : b.H a = none) (ne : ∀ (j : Nat) (o : OB), env[j]? = some (.own o) → oa j ≠ a) (h : H a = some u) : Sig K b (upd F a u) oa σ H env where
  g := S.g.give n n0 h
  len := S.len
  val := fun i d e => by
    obtain ⟨v, h1, h2⟩ := S.val i d e
    exact ⟨v, h1, h2.mono (Ex.new n)⟩
  own := fun i o e => by
    obtain ⟨h1, h2, h3, h4⟩ := S.own i o e
    exact ⟨h1, by rw [upd_ne (ne i o e)]; exact h2, h3, h4.mono (Ex.new n) fun _ q => q⟩
  dist := S.dist
  fix := S.fix
end
end DL

namespace DL
open PySem L2

/-- what an expression gives: data that stands, or what a slot owns -/
inductive Res where
  | val (d : D) | slot (i : Nat)
def RR (K : PySem.W.Frag) (F : Hp) (oa : Nat → Addr) (v : V) : Res → Prop
  | .val d => Rep K F v d
  | .slot i => v = .ref (oa i)
/-- it reads as d -/
def Rd (env : Env) : Res → D → Prop
  | .val d, e => d = e
  | .slot i, e => ∃ o, env[i]? = some (.own o) ∧ o.d = e
section
variable {K : PySem.W.Frag} {b : Bs} {F F' H : Hp} {oa : Nat → Addr} {σ : L2.St} {env env' : Env} {v : V} {r : Res} {d : D} {l : List D}
theorem RR.mono (h : RR K F oa v r) (e : Ex F F') : RR K F' oa v r := by
  cases r with
  | val d => exact Rep.mono e h
  | slot i => exact h
theorem Rd.lst' (S : Sig K b F oa σ H env) (h : RR K F oa v r) (q : Rd env r (.lst l)) : ∃ a vs, v = .ref a ∧ H a = some (.lst vs) ∧ RepL K F vs l := by
  cases r with
  | val d =>
    cases (show d = .lst l from q)
    cases h with
    | lst x y => exact ⟨_, _, rfl, S.g.fh _ _ x, y⟩
  | slot i =>
    obtain ⟨o, e, z⟩ := q
    obtain ⟨_, _, _, x⟩ := S.own i o e
    cases o with
    | lst l' =>
      cases z
      obtain ⟨vs, x1, x2⟩ := x
      exact ⟨_, vs, h, x1, x2⟩
    | dic _ => cases z
    | dit _ => cases z
    | obj _ _ => cases z
theorem Rd.scr (S : Sig K b F oa σ H env) (h : RR K F oa v r) (q : Rd env r (.scr l)) : ∃ a vs, v = .ref a ∧ SqL K H a vs ∧ RepL K F vs l := by
  cases r with
  | val d =>
    cases (show d = .scr l from q)
    cases h with
    | scr x y => exact ⟨_, _, rfl, S.g.fh.l x, y⟩
  | slot i =>
    obtain ⟨o, e, z⟩ := q
    cases o <;> cases z
/-- a list to be read: one of the call's own, or the script -/
def RdL (env : Env) (r : Res) (k : List D) : Prop := Rd env r (.lst k) ∨ Rd env r (.scr k)
theorem RdL.g (S : Sig K b F oa σ H env) (h : RR K F oa v r) (q : RdL env r l) : ∃ a vs, v = .ref a ∧ SqL K H a vs ∧ RepL K F vs l := by
  rcases q with q | q
  · obtain ⟨a, vs, e, s, p⟩ := Rd.lst' S h q
    exact ⟨a, vs, e, .inl (.inl s), p⟩
  · exact Rd.scr S h q
theorem Rd.tup (S : Sig K b F oa σ H env) (h : RR K F oa v r) (q : Rd env r (.tup l)) : ∃ a vs, v = .ref a ∧ SqT K H a vs ∧ RepL K F vs l := by
  cases r with
  | val d =>
    cases (show d = .tup l from q)
    cases h with
    | tup x y => exact ⟨_, _, rfl, S.g.fh.t x, y⟩
  | slot i =>
    obtain ⟨o, e, z⟩ := q
    cases o <;> cases z
theorem Rd.flat (h : RR K F oa v r) (q : Rd env r d) (f : flat d = true) : Rep K F v d := by
  cases r with
  | val e => cases (show e = d from q); exact h
  | slot i =>
    obtain ⟨o, e, z⟩ := q
    cases o <;> (subst z; cases f)
/-- read as it stands in the whole heap -/
theorem Rd.rep (S : Sig K b F oa σ H env) (h : RR K F oa v r) (q : Rd env r d) : Rep K H v d := by
  cases r with
  | val e => cases (show e = d from q); exact Rep.mono S.g.fh h
  | slot i =>
    obtain ⟨o, e, z⟩ := q
    subst z
    cases (show v = .ref (oa i) from h)
    obtain ⟨_, _, _, x⟩ := S.own i o e
    cases o with
    | lst l' => obtain ⟨vs, x1, x2⟩ := x; exact .lst x1 (x2.mono S.g.fh)
    | dic l' => obtain ⟨ks, vs, ds, x1, x2, x3, x4⟩ := x; subst x4; exact .dic x1 x2 (x3.mono S.g.fh)
    | dit l' => obtain ⟨ks, vs, ds, x1, x2, x3, x4⟩ := x; subst x4; exact .dit x1 x2 (x3.mono S.g.fh)
    | obj C fs => obtain ⟨dx, ks, vs, ds, x1, x2, x3, x4⟩ := x; subst x4; exact .obj x1 x2 (x3.mono S.g.fh)
end

/-- what a step leaves: what stands stands; what no slot owns is as it was -/
structure Stp (oa : Nat → Addr) (env : Env) (F H : Hp) (env' : Env) (F' H' : Hp) : Prop where
  ff : Ex F F'
  kp : ∀ a u, H a = some u → (∀ (j : Nat) (o : OB), env[j]? = some (.own o) → oa j ≠ a) → H' a = some u
  gn : ∀ a, F' a ≠ none → F a ≠ none ∨ H a = none
  th : ∀ a, H a ≠ none → H' a ≠ none
  sub : ∀ (j : Nat) (o : OB), env'[j]? = some (.own o) → ∃ o', env[j]? = some (.own o')
section
variable {K : PySem.W.Frag} {b : Bs} {F F1 F2 H H1 H2 : Hp} {oa : Nat → Addr} {σ : L2.St} {env e1 e2 : Env} {p : Addr} {u : HO}
theorem Stp.refl : Stp oa env F H env F H := ⟨Ex.refl _, fun _ _ h _ => h, fun _ h => .inl h, fun _ h => h, fun j o h => ⟨o, h⟩⟩
theorem Stp.trans (x : Stp oa env F H e1 F1 H1) (y : Stp oa e1 F1 H1 e2 F2 H2) : Stp oa env F H e2 F2 H2 := ⟨x.ff.trans y.ff, fun a u h n => y.kp a u (x.kp a u h n) fun j o e => by
    obtain ⟨o', e'⟩ := x.sub j o e
    exact n j o' e', fun a h => by
    rcases y.gn a h with z | z
    · exact x.gn a z
    · refine .inr ?_
      cases w : H a with
      | none => rfl
      | some v => exact absurd z (x.th a (by rw [w]; simp)), fun a h => y.th a (x.th a h), fun j o e => by
    obtain ⟨o', e'⟩ := y.sub j o e
    exact x.sub j o' e'⟩
theorem Stp.new (n : H p = none) (nf : F p = none) : Stp oa env F H env (upd F p u) (upd H p u) := ⟨Ex.new nf, fun a v h _ => Ex.new n a v h, fun a h => by
    by_cases q : a = p
    · subst q; exact .inr n
    · rw [upd_ne q] at h; exact .inl h, fun a h z => h ((Ex.new n).back z), fun j o e => ⟨o, e⟩⟩
theorem Stp.newH (n : H p = none) : Stp oa env F H env F (upd H p u) := ⟨Ex.refl _, fun a v h _ => Ex.new n a v h, fun a h => .inl h, fun a h z => h ((Ex.new n).back z), fun j o e => ⟨o, e⟩⟩
theorem Stp.none (x : Stp oa env F H e1 F1 H1) (n : H1 p = none) : H p = none := by
  cases w : H p with
  | none => rfl
  | some v => exact absurd n (x.th p (by rw [w]; simp))
end

def Ev (K : PySem.W.Frag) (te : TE) (env : Env) (r : Res) (env' : Env) : Prop := ∀ (b : Bs) (F : Hp) (oa : Nat → Addr) (σ : L2.St) (H : Hp), Sig K b F oa σ H env → ∀ Q : VK,
  (∀ v F' H', Sig K b F' oa σ H' env' → Stp oa env F H env' F' H' → RR K F' oa v r → Q v H') → te σ H Q
/-- a new object that nobody has yet -/
def NewAt (K : PySem.W.Frag) (b : Bs) (F : Hp) (oa : Nat → Addr) (H : Hp) (env : Env) (a : Addr) (o : OB) : Prop :=
  F a = none ∧ b.H a = none ∧ (∀ (j : Nat) (u : OB), env[j]? = some (.own u) → oa j ≠ a) ∧ (∀ j, b.fx j ≠ some a) ∧ ORep K F H a o
def EvN (K : PySem.W.Frag) (te : TE) (env : Env) (o : OB) (env' : Env) : Prop := ∀ (b : Bs) (F : Hp) (oa : Nat → Addr) (σ : L2.St) (H : Hp), Sig K b F oa σ H env → ∀ Q : VK,
  (∀ a F' H', Sig K b F' oa σ H' env' → Stp oa env F H env' F' H' → H a = none → NewAt K b F' oa H' env' a o → Q (.ref a) H') → te σ H Q
def EvT (K : PySem.W.Frag) (t : TT) (env : Env) (c : Bool) (env' : Env) : Prop := ∀ (b : Bs) (F : Hp) (oa : Nat → Addr) (σ : L2.St) (H : Hp), Sig K b F oa σ H env → ∀ Q : Bool → Hp → Prop,
  (∀ F' H', Sig K b F' oa σ H' env' → Stp oa env F H env' F' H' → Q c H') → t σ H Q
def RRs (K : PySem.W.Frag) (F : Hp) (oa : Nat → Addr) : List V → List Res → Prop
  | [], [] => True
  | v :: vs, r :: rs => RR K F oa v r ∧ RRs K F oa vs rs
  | _, _ => False
theorem RRs.mono {K : PySem.W.Frag} {F F' : Hp} {oa : Nat → Addr} (e : Ex F F') : ∀ {vs : List V} {rs : List Res}, RRs K F oa vs rs → RRs K F' oa vs rs
  | [], [], _ => trivial
  | _ :: _, _ :: _, h => ⟨h.1.mono e, RRs.mono e h.2⟩
  | [], _ :: _, h => h.elim
  | _ :: _, [], h => h.elim
def EvA (K : PySem.W.Frag) (ta : TA) (env : Env) (rs : List Res) (env' : Env) : Prop := ∀ (b : Bs) (F : Hp) (oa : Nat → Addr) (σ : L2.St) (H : Hp), Sig K b F oa σ H env → ∀ Q : List V → Hp → Prop,
  (∀ vs F' H', Sig K b F' oa σ H' env' → Stp oa env F H env' F' H' → RRs K F' oa vs rs → Q vs H') → ta σ H Q
def EvO (K : PySem.W.Frag) (to : TO) (env : Env) (o : Option Int) (env' : Env) : Prop := ∀ (b : Bs) (F : Hp) (oa : Nat → Addr) (σ : L2.St) (H : Hp), Sig K b F oa σ H env → ∀ Q : Option Int → Hp → Prop,
  (∀ F' H', Sig K b F' oa σ H' env' → Stp oa env F H env' F' H' → Q o H') → to σ H Q

section
variable {K : PySem.W.Frag} {te ta tb tc : TE} {t u : TT} {env e1 e2 e3 : Env} {r r1 r2 : Res} {d : D} {o : OB} {i j : Nat} {n m : Int}
theorem Ev.give (h : EvN K te env o e1) : Ev K te env (.val o.d) e1 := fun b F oa σ H S Q k => h b F oa σ H S Q fun a F' H' S' e na ⟨n, n0, ne, _, x⟩ => by
  obtain ⟨u, hu, r⟩ := x.give n
  refine k _ _ _ (S'.stand n n0 ne hu) ⟨e.ff.trans (Ex.new n), e.kp, fun c h => ?_, e.th, e.sub⟩ r
  by_cases q : c = a
  · subst q; exact .inr na
  · rw [upd_ne q] at h; exact e.gn c h
theorem ev_var (h : env[i]? = some (.val d)) : Ev K (tVar i) env (.val d) env := fun b F oa σ H S Q k => by
  obtain ⟨v, h1, h2⟩ := S.val i d h
  exact ⟨v, h1, k v F H S Stp.refl h2⟩
theorem ev_own (h : env[i]? = some (.own o)) : Ev K (tVar i) env (.slot i) env := fun b F oa σ H S Q k => by
  obtain ⟨h1, _⟩ := S.own i o h
  exact ⟨_, h1, k _ F H S Stp.refl rfl⟩
theorem ev_int : Ev K (tC (.int n)) env (.val (.int n)) env := fun b F oa σ H S Q k => k _ F H S Stp.refl (.int n)
theorem ev_bl {c : Bool} : Ev K (tC (.bl c)) env (.val (.bl c)) env := fun b F oa σ H S Q k => k _ F H S Stp.refl (.bl c)
theorem ev_str {x : Str} : Ev K (tC (.str x)) env (.val (.str x)) env := fun b F oa σ H S Q k => k _ F H S Stp.refl (.str x)
theorem ev_non : Ev K (tC .non) env (.val .non) env := fun b F oa σ H S Q k => k _ F H S Stp.refl .non
theorem ev_ty {x : String} : Ev K (tC (.ty x)) env (.val (.ty x)) env := fun b F oa σ H S Q k => k _ F H S Stp.refl (.ty x)
theorem ev_ref {a : Addr} : Ev K (tC (.ref a)) env (.val (.ref a)) env := fun b F oa σ H S Q k => k _ F H S Stp.refl (.ref a)
/-- two operands, the answer flat -/
theorem ev_op {rr : R2} (ha : Ev K ta env r1 e1) (hb : Ev K tb e1 r2 e2) (hr : ∀ b F oa σ H x y, Sig K b F oa σ H e2 → RR K F oa x r1 → RR K F oa y r2 → ∀ Q : VK, (∀ v F' H', Sig K b F' oa σ H' e2 → Stp oa e2 F H e2 F' H' → RR K F' oa v r → Q v H') → rr x y H Q) :
    Ev K (tOp rr ta tb) env r e2 := fun b F oa σ H S Q k => ha b F oa σ H S _ fun x F1 H1 S1 g1 h1 => hb b F1 oa σ H1 S1 _ fun y F2 H2 S2 g2 h2 => hr b F2 oa σ H2 x y S2 (h1.mono g2.ff) h2 Q fun v F' H' S' g3 h3 => k v F' H' S' ((g1.trans g2).trans g3) h3
theorem ev_un {rr : V → Hp → VK → Prop} (ha : Ev K ta env r1 e1) (hr : ∀ b F oa σ H x, Sig K b F oa σ H e1 → RR K F oa x r1 → ∀ Q : VK, (∀ v F' H', Sig K b F' oa σ H' e1 → Stp oa e1 F H e1 F' H' → RR K F' oa v r → Q v H') → rr x H Q) :
    Ev K (tUn rr ta) env r e1 := fun b F oa σ H S Q k => ha b F oa σ H S _ fun x F1 H1 S1 g1 h1 => hr b F1 oa σ H1 x S1 h1 Q fun v F' H' S' g3 h3 => k v F' H' S' (g1.trans g3) h3
/-- a built-in's call -/
theorem ev_cb {rr : List V → Hp → VK → Prop} {ts : TA} {rs : List Res} (ha : EvA K ts env rs e1) (hr : ∀ b F oa σ H vs, Sig K b F oa σ H e1 → RRs K F oa vs rs → ∀ Q : VK, (∀ v F' H', Sig K b F' oa σ H' e1 → Stp oa e1 F H e1 F' H' → RR K F' oa v r → Q v H') → rr vs H Q) :
    Ev K (tCB rr ts) env r e1 := fun b F oa σ H S Q k => ha b F oa σ H S _ fun vs F1 H1 S1 g1 h1 => hr b F1 oa σ H1 vs S1 h1 Q fun v F' H' S' g3 h3 => k v F' H' S' (g1.trans g3) h3
theorem ea_nil : EvA K tNil env [] env := fun b F oa σ H S Q k => k [] F H S Stp.refl trivial
theorem ea_cons {ts : TA} {rs : List Res} (ha : Ev K ta env r1 e1) (hb : EvA K ts e1 rs e2) : EvA K (tCons ta ts) env (r1 :: rs) e2 := fun b F oa σ H S Q k =>
  ha b F oa σ H S _ fun x F1 H1 S1 g1 h1 => hb b F1 oa σ H1 S1 _ fun vs F2 H2 S2 g2 h2 => k _ F2 H2 S2 (g1.trans g2) ⟨h1.mono g2.ff, h2⟩
theorem rrs_vals {F : Hp} {oa : Nat → Addr} : ∀ {vs : List V} {ds : List D}, RRs K F oa vs (ds.map Res.val) → RepL K F vs ds
  | [], [], _ => .nil
  | _ :: _, _ :: _, h => .cons h.1 (rrs_vals h.2)
  | [], _ :: _, h => h.elim
  | _ :: _, [], h => h.elim
/-- all arguments are data -/
def vals : List Res → Option (List D)
  | [] => some []
  | .val d :: r => (vals r).map (d :: ·)
  | .slot _ :: _ => none
theorem vals_rep {F : Hp} {oa : Nat → Addr} : ∀ {vs : List V} {rs : List Res} {ds : List D}, RRs K F oa vs rs → vals rs = some ds → RepL K F vs ds
  | [], [], _, _, e => by cases e; exact .nil
  | _ :: _, .val d :: rs, ds, h, e => by
    unfold vals at e
    cases z : vals rs with
    | none => rw [z] at e; cases e
    | some x => rw [z] at e; cases e; exact .cons h.1 (vals_rep h.2 z)
  | _ :: _, .slot _ :: _, _, _, e => by cases e
  | [], _ :: _, _, h, _ => h.elim
  | _ :: _, [], _, h, _ => h.elim
theorem en_new {b : Bs} {F : Hp} {oa : Nat → Addr} {σ : L2.St} {H : Hp} {p : Addr} {u : HO} (S : Sig K b F oa σ H env) (hp : H p = none) (x : ORep K F (upd H p u) p o) :
    Sig K b F oa σ (upd H p u) env ∧ Stp oa env F H env F (upd H p u) ∧ NewAt K b F oa (upd H p u) env p o := by
  have g := S.g
  refine ⟨⟨⟨g.gf, g.gh.trans (Ex.new hp), g.fh.trans (Ex.new hp), g.gn⟩, S.len, S.val, fun i w e => ?_, S.dist, fun i c e => ⟨(S.fix i c e).1, fun z => (S.fix i c e).2 ((Ex.new hp).back z)⟩⟩, Stp.newH hp, g.fh.back hp, g.gh.back hp, fun j w e => S.ne hp e, fun j e => (S.fix j p e).2 hp, x⟩
  obtain ⟨h1, h2, h3, h4⟩ := S.own i w e
  refine ⟨h1, h2, h3, h4.mono (Ex.refl _) fun y q => ?_⟩
  rw [upd_ne (S.ne hp e)]; exact q
end
end DL

namespace DL
open PySem L2

/-! ### operators by all that they serve -/
theorem OpR.or {X : Cx} {f : Value → Value → Sem Value} {r1 r2 : R2} (h1 : OpR X f r1) (h2 : OpR X f r2) : OpR X f (fun x y H Q => r1 x y H Q ∨ r2 x y H Q) := by
  intro pins s σ H x y v u Q I rx ry h
  rcases h with h | h
  · exact h1 pins s σ H x y v u Q I rx ry h
  · exact h2 pins s σ H x y v u Q I rx ry h
theorem CallR.or {X : Cx} {f : Value} {r1 r2 : List V → Hp → VK → Prop} (h1 : CallR X f r1) (h2 : CallR X f r2) : CallR X f (fun xs H Q => r1 xs H Q ∨ r2 xs H Q) := by
  intro pins s σ H xs us Q I r h
  rcases h with h | h
  · exact h1 pins s σ H xs us Q I r h
  · exact h2 pins s σ H xs us Q I r h
def rS : R2 := fun x y H Q => ∃ i j, x = .str i ∧ y = .str j ∧ i.length + j.length ≤ sizeLine ∧ Q (.str (i ++ j)) H
def rAddU (K : PySem.W.Frag) : R2 := fun x y H Q => rI0 (fun i j => .int (i + j)) x y H Q ∨ (rS x y H Q ∨ (rCatA K x y H Q ∨ rCat x y H Q))
theorem op_addU {X : Cx} {K : PySem.W.Frag} (e : X.K = K := by rfl) : OpR X (binaryOp .Add) (rAddU K) := by subst e; exact OpR.or op_add (OpR.or op_add_str (OpR.or op_catA op_cat))
def rSubU : R2 := rI0 fun i j => .int (i - j)
theorem op_subU {X : Cx} : OpR X (binaryOp .Sub) rSubU := op_sub
def rMulU : R2 := fun x y H Q => rI CMul (fun i j => .int (i * j)) x y H Q ∨ (rI CMulX (fun i j => .int (i * j)) x y H Q ∨ rRep x y H Q)
theorem op_mulU {X : Cx} : OpR X (binaryOp .Mult) rMulU := OpR.or op_mul (OpR.or op_mulX op_rep)
def rDivU : R2 := rI CDivW fun i j => .int (i / j)
theorem op_divU {X : Cx} : OpR X (binaryOp .FloorDiv) rDivU := op_fdivW
def rModU : R2 := rI (fun _ j => 0 < j) fun i j => .int (i % j)
theorem op_modU {X : Cx} : OpR X (binaryOp .Mod) rModU := op_mod
def rPowU : R2 := rI CPow fun i j => .int (i ^ j.toNat)
theorem op_powU {X : Cx} : OpR X (binaryOp .Pow) rPowU := op_pow
def rShlU : R2 := rI CShl fun i j => .int (i * 2 ^ j.toNat)
theorem op_shlU {X : Cx} : OpR X (binaryOp .LShift) rShlU := op_shlW
def rShrU : R2 := rI (fun _ j => 0 ≤ j) fun i j => .int (i / 2 ^ j.toNat)
theorem op_shrU {X : Cx} : OpR X (binaryOp .RShift) rShrU := op_shr
def rAndU : R2 := rI0 fun i j => .int (Builtin.bitAnd i j)
theorem op_andU {X : Cx} : OpR X (binaryOp .BitAnd) rAndU := op_and
def rOrU : R2 := rI0 fun i j => .int (Builtin.bitOr i j)
theorem op_orU {X : Cx} : OpR X (binaryOp .BitOr) rOrU := op_or
def rXorU : R2 := rI0 fun i j => .int (Builtin.bitXor i j)
theorem op_xorU {X : Cx} : OpR X (binaryOp .BitXor) rXorU := op_xor
def rEqU (K : PySem.W.Frag) : R2 := fun x y H Q => rEq x y H Q ∨ rEqD K x y H Q
theorem op_eqU {X : Cx} {K : PySem.W.Frag} (hu : X.A.units + 64 < cLine) (e : X.K = K := by rfl) : OpR X (compareOp .Eq) (rEqU K) := by subst e; exact OpR.or op_eq (op_eqD hu)
def rNeU (K : PySem.W.Frag) : R2 := fun x y H Q => rNe x y H Q ∨ rNeD K x y H Q
theorem op_neU {X : Cx} {K : PySem.W.Frag} (hu : X.A.units + 64 < cLine) (e : X.K = K := by rfl) : OpR X (compareOp .NotEq) (rNeU K) := by subst e; exact OpR.or op_ne (op_neD hu)
def rLtU : R2 := rI0 fun i j => .bl (decide (i < j))
def rLeU : R2 := rI0 fun i j => .bl (decide (i ≤ j))
def rGtU : R2 := rI0 fun i j => .bl (decide (j < i))
def rGeU : R2 := rI0 fun i j => .bl (decide (j ≤ i))
theorem op_ltU {X : Cx} : OpR X (compareOp .Lt) rLtU := op_lt
theorem op_leU {X : Cx} : OpR X (compareOp .LtE) rLeU := op_le
theorem op_gtU {X : Cx} : OpR X (compareOp .Gt) rGtU := op_gt
theorem op_geU {X : Cx} : OpR X (compareOp .GtE) rGeU := op_ge
def rIsNn : R2 := fun x y H Q => y = .non ∧ Q (.bl (decide (x = .non))) H
def rNotNn : R2 := fun x y H Q => y = .non ∧ Q (.bl (!decide (x = .non))) H
def rIsU : R2 := fun x y H Q => rIsNn x y H Q ∨ rIsB x y H Q
def rNotU : R2 := fun x y H Q => rNotNn x y H Q ∨ rNotB x y H Q
theorem op_isU {X : Cx} : OpR X (compareOp .Is) rIsU := OpR.or op_isN op_isBl
theorem op_notU {X : Cx} : OpR X (compareOp .IsNot) rNotU := OpR.or op_notN op_notBl
def rLen1 (K : PySem.W.Frag) : List V → Hp → VK → Prop := fun xs H Q => ∃ x n, xs = [x] ∧ LenV K x H n ∧ Q (.int n) H
def rLen2 : List V → Hp → VK → Prop := fun xs H Q => ∃ a kvs, xs = [V.ref a] ∧ H a = some (.dK kvs) ∧ Q (.int kvs.length) H
def rLenU (K : PySem.W.Frag) : List V → Hp → VK → Prop := fun xs H Q => rLen1 K xs H Q ∨ rLen2 xs H Q
theorem call_lenU {X : Cx} {K : PySem.W.Frag} (e : X.K = K := by rfl) : CallR X (.builtin "len") (rLenU K) := by subst e; exact CallR.or call_len call_lenD
theorem call_isiU {X : Cx} {K : PySem.W.Frag} (e : X.K = K := by rfl) : CallR X (.builtin "isinstance") (rIsi K) := by subst e; exact call_isi
theorem call_allU {X : Cx} {K : PySem.W.Frag} (hc : X.calm = true) (e : X.K = K := by rfl) : CallR X (.builtin "all") (rAll K) := by subst e; exact cr_all hc
theorem call_anyU {X : Cx} {K : PySem.W.Frag} (hc : X.calm = true) (e : X.K = K := by rfl) : CallR X (.builtin "any") (rAny K) := by subst e; exact cr_any hc
theorem call_sumU {X : Cx} {K : PySem.W.Frag} (hc : X.calm = true) (e : X.K = K := by rfl) : CallR X (.builtin "sum") (rSum K) := by subst e; exact cr_sum hc
theorem ix_U {X : Cx} {K : PySem.W.Frag} (e : X.K = K := by rfl) : IxR X (rIx K) := by subst e; exact ix_seq
def rAbs : List V → Hp → VK → Prop := fun xs H Q => ∃ i, xs = [.int i] ∧ Q (.int (if i < 0 then -i else i)) H
theorem call_absU {X : Cx} : CallR X (.builtin "abs") rAbs := call_abs
def rMax2 : List V → Hp → VK → Prop := fun xs H Q => ∃ i j, xs = [.int i, .int j] ∧ Q (.int (if j > i then j else i)) H
def rMin2 : List V → Hp → VK → Prop := fun xs H Q => ∃ i j, xs = [.int i, .int j] ∧ Q (.int (if j < i then j else i)) H
theorem call_max2U {X : Cx} (hc : X.calm = true) : CallR X (.builtin "max") rMax2 := call_max2 hc
theorem call_min2U {X : Cx} (hc : X.calm = true) : CallR X (.builtin "min") rMin2 := call_min2 hc
def rInt1 : List V → Hp → VK → Prop := fun xs H Q => (∃ i, xs = [.int i] ∧ Q (.int i) H) ∨ ∃ k, xs = [.bl k] ∧ Q (.int (if k then 1 else 0)) H
theorem call_intU {X : Cx} : CallR X (.type "int") rInt1 := call_int1
def rListOf (K : PySem.W.Frag) : List V → Hp → VK → Prop := fun xs H Q => ∃ p ys, xs = [.ref p] ∧ (SqL K H p ys ∨ SqT K H p ys) ∧ ∀ l, H l = none → Q (.ref l) (upd H l (.lst ys))
theorem call_listU {X : Cx} {K : PySem.W.Frag} (e : X.K = K := by rfl) : CallR X (.type "list") (rListOf K) := by subst e; exact call_list_of
def rTupleOf (K : PySem.W.Frag) : List V → Hp → VK → Prop := fun xs H Q => ∃ p ys, xs = [.ref p] ∧ ((SqL K H p ys ∧ ∀ l, H l = none → Q (.ref l) (upd H l (.tup ys))) ∨ (SqT K H p ys ∧ Q (.ref p) H))
theorem call_tupleU {X : Cx} {K : PySem.W.Frag} (e : X.K = K := by rfl) : CallR X (.type "tuple") (rTupleOf K) := by subst e; exact call_tuple_of
def rSlU (K : PySem.W.Frag) : V → Option Int → Option Int → Hp → VK → Prop := fun x lo hi H Q => rSlL K x lo hi H Q ∨ (rSlA K x lo hi H Q ∨ rSlS x lo hi H Q)
theorem SlR.or {X : Cx} {r1 r2 : V → Option Int → Option Int → Hp → VK → Prop} (h1 : SlR X r1) (h2 : SlR X r2) : SlR X (fun x l u H Q => r1 x l u H Q ∨ r2 x l u H Q) := by
  intro pins s σ H x v vl vu l u sl Q I rx hs pl pu h
  rcases h with h | h
  · exact h1 pins s σ H x v vl vu l u sl Q I rx hs pl pu h
  · exact h2 pins s σ H x v vl vu l u sl Q I rx hs pl pu h
theorem sl_U {X : Cx} {K : PySem.W.Frag} (e : X.K = K := by rfl) : SlR X (rSlU K) := by subst e; exact SlR.or sl_list (SlR.or sl_tupA sl_str)

/-! ### PyData of data -/
mutual
def py : D → Option PyData
  | .non => some .none
  | .bl b => some (.bool b)
  | .int i => some (.int i)
  | .str x => some (.str x)
  | .tup l => (pys l).map .tuple
  | .lst l => (pys l).map .list
  | .ty _ => none
  | .scr _ => none
  | .ref _ => none
  | .dic _ => none
  | .dit _ => none
  | .obj _ _ => none
  | .exc _ => none
def pys : List D → Option (List PyData)
  | [] => some []
  | d :: r => match py d, pys r with
    | some x, some y => some (x :: y)
    | _, _ => none
end
mutual
theorem Rep.dp {K : PySem.W.Frag} {H : Hp} : ∀ {v : V} {d : D} {p : PyData}, Rep K H v d → py d = some p → Dp K H v p
  | _, _, _, .non, e => by unfold py at e; cases e; exact .non
  | _, _, _, .bl b, e => by unfold py at e; cases e; exact .bl b
  | _, _, _, .int b, e => by unfold py at e; cases e; exact .int b
  | _, _, _, .str b, e => by unfold py at e; cases e; exact .str b
  | _, _, _, .tup (l := l) h r, e => by
    unfold py at e
    cases q : pys l with
    | none => rw [q] at e; cases e
    | some x => rw [q] at e; cases e; exact .tup h (RepL.dp r q)
  | _, _, _, .lst (l := l) h r, e => by
    unfold py at e
    cases q : pys l with
    | none => rw [q] at e; cases e
    | some x => rw [q] at e; cases e; exact .lst (.inl (.inl h)) (RepL.dp r q)
  | _, _, _, .ty _, e => by unfold py at e; cases e
  | _, _, _, .scr _ _, e => by unfold py at e; cases e
  | _, _, _, .ref _, e => by unfold py at e; cases e
  | _, _, _, .dic _ _ _, e => by unfold py at e; cases e
  | _, _, _, .dit _ _ _, e => by unfold py at e; cases e
  | _, _, _, .obj _ _ _, e => by unfold py at e; cases e
  | _, _, _, .exc _, e => by unfold py at e; cases e
theorem RepL.dp {K : PySem.W.Frag} {H : Hp} : ∀ {vs : List V} {ds : List D} {ps : List PyData}, RepL K H vs ds → pys ds = some ps → DpAll K H vs ps
  | _, _, _, .nil, e => by unfold pys at e; cases e; exact .nil
  | _, _, _, .cons (d := d) (ds := ds) h r, e => by
    unfold pys at e
    cases q1 : py d with
    | none => rw [q1] at e; cases e
    | some x =>
      cases q2 : pys ds with
      | none => rw [q1, q2] at e; cases e
      | some y => rw [q1, q2] at e; cases e; exact .cons (Rep.dp h q1) (RepL.dp r q2)
end
/-- == of data -/
def eqD (d e : D) : Option Bool := match py d, py e with
  | some p, some q => if SeqAt.shaped p && SeqAt.shaped q then some (PyData.eqv p q) else none
  | _, _ => none

section
variable {K : PySem.W.Frag} {te ta tb tc : TE} {t u : TT} {env e1 e2 e3 : Env} {r r1 r2 : Res} {d d1 d2 : D} {o : OB} {i j : Int} {x y : Str} {c c1 c2 : Bool} {l m : List D}
/-! ### operators -/
theorem ev_fl {rr : R2} (ha : Ev K ta env (.val d1) e1) (hb : Ev K tb e1 (.val d2) e2) (f1 : flat d1 = true) (f2 : flat d2 = true) (f : flat d = true)
    (hr : ∀ v w, Rep K (fun _ => none) v d1 → Rep K (fun _ => none) w d2 → ∃ z, Rep K (fun _ => none) z d ∧ ∀ H Q, Q z H → rr v w H Q) : Ev K (tOp rr ta tb) env (.val d) e2 :=
  ev_op ha hb fun b F oa σ H v w S h1 h2 Q k => by
    obtain ⟨z, hz, q⟩ := hr v w (Rep.flat h1 f1) (Rep.flat h2 f2)
    exact q H Q (k z F H S Stp.refl (Rep.flat hz f))
theorem ev_ii {rr : R2} {z : V} {d : D} (ha : Ev K ta env (.val (.int i)) e1) (hb : Ev K tb e1 (.val (.int j)) e2) (hz : Rep K (fun _ => none) z d) (f : flat d = true)
    (hr : ∀ H Q, Q z H → rr (.int i) (.int j) H Q) : Ev K (tOp rr ta tb) env (.val d) e2 :=
  ev_fl ha hb rfl rfl f fun v w h1 h2 => by cases h1; cases h2; exact ⟨_, hz, hr⟩
theorem ev_add (ha : Ev K ta env (.val (.int i)) e1) (hb : Ev K tb e1 (.val (.int j)) e2) : Ev K (tOp (rAddU K) ta tb) env (.val (.int (i + j))) e2 :=
  ev_ii ha hb (.int _) rfl fun H Q q => .inl ⟨i, j, rfl, rfl, q⟩
theorem ev_adds (ha : Ev K ta env (.val (.str x)) e1) (hb : Ev K tb e1 (.val (.str y)) e2) (hl : x.length + y.length ≤ sizeLine) : Ev K (tOp (rAddU K) ta tb) env (.val (.str (x ++ y))) e2 :=
  ev_fl ha hb rfl rfl rfl fun v w h1 h2 => by cases h1; cases h2; exact ⟨_, .str _, fun H Q q => .inr (.inl ⟨x, y, rfl, rfl, hl, q⟩)⟩
theorem ev_sub (ha : Ev K ta env (.val (.int i)) e1) (hb : Ev K tb e1 (.val (.int j)) e2) : Ev K (tOp rSubU ta tb) env (.val (.int (i - j))) e2 := ev_ii ha hb (.int _) rfl fun H Q q => ⟨i, j, rfl, rfl, q⟩
theorem ev_mul (ha : Ev K ta env (.val (.int i)) e1) (hb : Ev K tb e1 (.val (.int j)) e2) (hc : CMul i j ∨ CMulX i j) : Ev K (tOp rMulU ta tb) env (.val (.int (i * j))) e2 :=
  ev_ii ha hb (.int _) rfl fun H Q q => by
    rcases hc with h | h
    · exact .inl ⟨i, j, rfl, rfl, h, q⟩
    · exact .inr (.inl ⟨i, j, rfl, rfl, h, q⟩)
theorem ev_div (ha : Ev K ta env (.val (.int i)) e1) (hb : Ev K tb e1 (.val (.int j)) e2) (h0 : 0 < j) (hl : j.natAbs.log2 < 9000) : Ev K (tOp rDivU ta tb) env (.val (.int (i / j))) e2 := ev_ii ha hb (.int _) rfl fun H Q q => ⟨i, j, rfl, rfl, ⟨h0, hl⟩, q⟩
theorem ev_mod (ha : Ev K ta env (.val (.int i)) e1) (hb : Ev K tb e1 (.val (.int j)) e2) (h0 : 0 < j) : Ev K (tOp rModU ta tb) env (.val (.int (i % j))) e2 := ev_ii ha hb (.int _) rfl fun H Q q => ⟨i, j, rfl, rfl, h0, q⟩
theorem ev_pow (ha : Ev K ta env (.val (.int i)) e1) (hb : Ev K tb e1 (.val (.int j)) e2) (h0 : CPow i j) : Ev K (tOp rPowU ta tb) env (.val (.int (i ^ j.toNat))) e2 := ev_ii ha hb (.int _) rfl fun H Q q => ⟨i, j, rfl, rfl, h0, q⟩
theorem ev_shl (ha : Ev K ta env (.val (.int i)) e1) (hb : Ev K tb e1 (.val (.int j)) e2) (h0 : CShl i j) : Ev K (tOp rShlU ta tb) env (.val (.int (i * 2 ^ j.toNat))) e2 := ev_ii ha hb (.int _) rfl fun H Q q => ⟨i, j, rfl, rfl, h0, q⟩
theorem ev_shr (ha : Ev K ta env (.val (.int i)) e1) (hb : Ev K tb e1 (.val (.int j)) e2) (h0 : 0 ≤ j) : Ev K (tOp rShrU ta tb) env (.val (.int (i / 2 ^ j.toNat))) e2 := ev_ii ha hb (.int _) rfl fun H Q q => ⟨i, j, rfl, rfl, h0, q⟩
theorem ev_band (ha : Ev K ta env (.val (.int i)) e1) (hb : Ev K tb e1 (.val (.int j)) e2) : Ev K (tOp rAndU ta tb) env (.val (.int (Builtin.bitAnd i j))) e2 := ev_ii ha hb (.int _) rfl fun H Q q => ⟨i, j, rfl, rfl, q⟩
theorem ev_bor (ha : Ev K ta env (.val (.int i)) e1) (hb : Ev K tb e1 (.val (.int j)) e2) : Ev K (tOp rOrU ta tb) env (.val (.int (Builtin.bitOr i j))) e2 := ev_ii ha hb (.int _) rfl fun H Q q => ⟨i, j, rfl, rfl, q⟩
theorem ev_bxor (ha : Ev K ta env (.val (.int i)) e1) (hb : Ev K tb e1 (.val (.int j)) e2) : Ev K (tOp rXorU ta tb) env (.val (.int (Builtin.bitXor i j))) e2 := ev_ii ha hb (.int _) rfl fun H Q q => ⟨i, j, rfl, rfl, q⟩
theorem ev_lt (ha : Ev K ta env (.val (.int i)) e1) (hb : Ev K tb e1 (.val (.int j)) e2) : Ev K (tOp rLtU ta tb) env (.val (.bl (decide (i < j)))) e2 := ev_ii ha hb (.bl _) rfl fun H Q q => ⟨i, j, rfl, rfl, q⟩
theorem ev_le (ha : Ev K ta env (.val (.int i)) e1) (hb : Ev K tb e1 (.val (.int j)) e2) : Ev K (tOp rLeU ta tb) env (.val (.bl (decide (i ≤ j)))) e2 := ev_ii ha hb (.bl _) rfl fun H Q q => ⟨i, j, rfl, rfl, q⟩
theorem ev_gt (ha : Ev K ta env (.val (.int i)) e1) (hb : Ev K tb e1 (.val (.int j)) e2) : Ev K (tOp rGtU ta tb) env (.val (.bl (decide (j < i)))) e2 := ev_ii ha hb (.bl _) rfl fun H Q q => ⟨i, j, rfl, rfl, q⟩
theorem ev_ge (ha : Ev K ta env (.val (.int i)) e1) (hb : Ev K tb e1 (.val (.int j)) e2) : Ev K (tOp rGeU ta tb) env (.val (.bl (decide (j ≤ i)))) e2 := ev_ii ha hb (.bl _) rfl fun H Q q => ⟨i, j, rfl, rfl, q⟩
theorem ev_neg (ha : Ev K ta env (.val (.int i)) e1) : Ev K (tUn (rU fun i => .int (-i)) ta) env (.val (.int (-i))) e1 :=
  ev_un ha fun b F oa σ H v S h Q k => by cases h; exact ⟨i, rfl, k _ F H S Stp.refl (.int _)⟩
theorem ev_eqi (ha : Ev K ta env (.val (.int i)) e1) (hb : Ev K tb e1 (.val (.int j)) e2) : Ev K (tOp (rEqU K) ta tb) env (.val (.bl (decide (i = j)))) e2 := by
  refine ev_ii (z := .bl (decide (i = j))) ha hb (.bl _) rfl fun H Q q => .inl ⟨rfl, ?_⟩
  have e : decide (V.int i = V.int j) = decide (i = j) := by simp
  rw [e]; exact q
theorem ev_nei (ha : Ev K ta env (.val (.int i)) e1) (hb : Ev K tb e1 (.val (.int j)) e2) : Ev K (tOp (rNeU K) ta tb) env (.val (.bl (!decide (i = j)))) e2 := by
  refine ev_ii (z := .bl (!decide (i = j))) ha hb (.bl _) rfl fun H Q q => .inl ⟨rfl, ?_⟩
  have e : decide (V.int i = V.int j) = decide (i = j) := by simp
  rw [e]; exact q
theorem ev_eqs (ha : Ev K ta env (.val (.str x)) e1) (hb : Ev K tb e1 (.val (.str y)) e2) : Ev K (tOp (rEqU K) ta tb) env (.val (.bl (decide (x = y)))) e2 :=
  ev_fl ha hb rfl rfl rfl fun v w h1 h2 => by
    cases h1; cases h2
    refine ⟨_, .bl _, fun H Q q => .inl ⟨rfl, ?_⟩⟩
    have e : decide (V.str x = V.str y) = decide (x = y) := by simp
    rw [e]; exact q
theorem ev_nes (ha : Ev K ta env (.val (.str x)) e1) (hb : Ev K tb e1 (.val (.str y)) e2) : Ev K (tOp (rNeU K) ta tb) env (.val (.bl (!decide (x = y)))) e2 :=
  ev_fl ha hb rfl rfl rfl fun v w h1 h2 => by
    cases h1; cases h2
    refine ⟨_, .bl _, fun H Q q => .inl ⟨rfl, ?_⟩⟩
    have e : decide (V.str x = V.str y) = decide (x = y) := by simp
    rw [e]; exact q
/-- == of data of any depth -/
theorem ev_eqd (ha : Ev K ta env r1 e1) (hb : Ev K tb e1 r2 e2) (h1 : Rd e2 r1 d1) (h2 : Rd e2 r2 d2) (hq : eqD d1 d2 = some c) : Ev K (tOp (rEqU K) ta tb) env (.val (.bl c)) e2 :=
  ev_op ha hb fun b F oa σ H v w S g1 g2 Q k => by
    unfold eqD at hq
    cases p1 : py d1 with
    | none => rw [p1] at hq; cases hq
    | some a =>
      cases p2 : py d2 with
      | none => rw [p1, p2] at hq; cases hq
      | some a' =>
        rw [p1, p2] at hq
        simp only at hq
        split at hq
        · rename_i z
          rw [Bool.and_eq_true] at z
          cases hq
          exact .inr ⟨a, a', (h1.rep S g1).dp p1, (h2.rep S g2).dp p2, z.1, z.2, k _ F H S Stp.refl (.bl _)⟩
        · cases hq
theorem ev_ned (ha : Ev K ta env r1 e1) (hb : Ev K tb e1 r2 e2) (h1 : Rd e2 r1 d1) (h2 : Rd e2 r2 d2) (hq : eqD d1 d2 = some c) : Ev K (tOp (rNeU K) ta tb) env (.val (.bl (!c))) e2 :=
  ev_op ha hb fun b F oa σ H v w S g1 g2 Q k => by
    unfold eqD at hq
    cases p1 : py d1 with
    | none => rw [p1] at hq; cases hq
    | some a =>
      cases p2 : py d2 with
      | none => rw [p1, p2] at hq; cases hq
      | some a' =>
        rw [p1, p2] at hq
        simp only at hq
        split at hq
        · rename_i z
          rw [Bool.and_eq_true] at z
          cases hq
          exact .inr ⟨a, a', (h1.rep S g1).dp p1, (h2.rep S g2).dp p2, z.1, z.2, k _ F H S Stp.refl (.bl _)⟩
        · cases hq
def isNon : D → Bool
  | .non => true
  | _ => false
theorem rep_non {F : Hp} {v : V} (h : Rep K F v d) : decide (v = V.non) = isNon d := by
  cases h <;> first | rfl | simp [isNon]
theorem ev_isn (ha : Ev K ta env (.val d) e1) (hb : Ev K tb e1 (.val .non) e2) : Ev K (tOp rIsU ta tb) env (.val (.bl (isNon d))) e2 :=
  ev_op ha hb fun b F oa σ H v w S g1 g2 Q k => by
    cases g2
    refine .inl ⟨rfl, ?_⟩
    rw [rep_non g1]
    exact k _ F H S Stp.refl (.bl _)
theorem ev_notn (ha : Ev K ta env (.val d) e1) (hb : Ev K tb e1 (.val .non) e2) : Ev K (tOp rNotU ta tb) env (.val (.bl (!isNon d))) e2 :=
  ev_op ha hb fun b F oa σ H v w S g1 g2 Q k => by
    cases g2
    refine .inl ⟨rfl, ?_⟩
    rw [rep_non g1]
    exact k _ F H S Stp.refl (.bl _)
theorem ev_isb (ha : Ev K ta env (.val (.bl c1)) e1) (hb : Ev K tb e1 (.val (.bl c2)) e2) : Ev K (tOp rIsU ta tb) env (.val (.bl (decide (c1 = c2)))) e2 :=
  ev_op ha hb fun b F oa σ H v w S g1 g2 Q k => by
    cases g1; cases g2
    exact .inr ⟨c1, c2, rfl, rfl, k _ F H S Stp.refl (.bl _)⟩
/-- a < b < c -/
theorem ev_chain {q q' : R2} (hb : Ev K (tOp q ta tb) env (.val (.bl c1)) e1) (hab : ∃ r1 r2 e0, Ev K ta env r1 e0 ∧ Ev K tb e0 r2 e1 ∧ (∀ b F oa σ H v w, Sig K b F oa σ H e1 → RR K F oa v r1 → RR K F oa w r2 → ∀ Q : VK, Q (.bl c1) H → q v w H Q) ∧
      (c1 = true → ∃ r3, Ev K tc e1 r3 e1 ∧ ∀ b F oa σ H v w, Sig K b F oa σ H e1 → RR K F oa v r2 → RR K F oa w r3 → ∀ Q : VK, Q (.bl c2) H → q' v w H Q)) :
    Ev K (tChain q q' ta tb tc) env (.val (.bl (c1 && c2))) e1 := by
  intro b F oa σ H S Q k
  obtain ⟨r1, r2, e0, h1, h2, h3, h4⟩ := hab
  refine h1 b F oa σ H S _ fun x F1 H1 S1 g1 q1 => h2 b F1 oa σ H1 S1 _ fun y F2 H2 S2 g2 q2 => h3 b F2 oa σ H2 x y S2 (q1.mono g2.ff) q2 _ ⟨c1, rfl, ?_⟩
  cases c1 with
  | false => exact k _ F2 H2 S2 (g1.trans g2) (.bl _)
  | true =>
    obtain ⟨r3, h5, h6⟩ := h4 rfl
    exact h5 b F2 oa σ H2 S2 _ fun z F3 H3 S3 g3 q3 => h6 b F3 oa σ H3 y z S3 (q2.mono g3.ff) q3 _ (k _ F3 H3 S3 ((g1.trans g2).trans g3) (.bl _))
theorem ev_chain_le {k' : Int} (ha : Ev K ta env (.val (.int i)) e1) (hb : Ev K tb e1 (.val (.int j)) e2) (hc : Ev K tc e2 (.val (.int k')) e2) : Ev K (tChain rLeU rLeU ta tb tc) env (.val (.bl (decide (i ≤ j) && decide (j ≤ k')))) e2 :=
  ev_chain (ev_le ha hb) ⟨_, _, _, ha, hb, fun b F oa σ H v w S h1 h2 Q q => by cases h1; cases h2; exact ⟨i, j, rfl, rfl, q⟩, fun _ => ⟨_, hc, fun b F oa σ H v w S h1 h2 Q q => by cases h1; cases h2; exact ⟨j, k', rfl, rfl, q⟩⟩⟩
theorem ev_chain_lelt {k' : Int} (ha : Ev K ta env (.val (.int i)) e1) (hb : Ev K tb e1 (.val (.int j)) e2) (hc : Ev K tc e2 (.val (.int k')) e2) : Ev K (tChain rLeU rLtU ta tb tc) env (.val (.bl (decide (i ≤ j) && decide (j < k')))) e2 :=
  ev_chain (ev_le ha hb) ⟨_, _, _, ha, hb, fun b F oa σ H v w S h1 h2 Q q => by cases h1; cases h2; exact ⟨i, j, rfl, rfl, q⟩, fun _ => ⟨_, hc, fun b F oa σ H v w S h1 h2 Q q => by cases h1; cases h2; exact ⟨j, k', rfl, rfl, q⟩⟩⟩
theorem ev_is (h : Ev K te env (.val d1) e1) (q : d1 = d2) : Ev K te env (.val d2) e1 := q ▸ h
theorem ev_env (h : Ev K te env r e1) (q : e1 = e2) : Ev K te env r e2 := q ▸ h

/-! ### tests -/
theorem et_test (h : Ev K te env (.val (.bl c)) e1) : EvT K (tTest te) env c e1 := fun b F oa σ H S Q k => h b F oa σ H S _ fun v F1 H1 S1 g1 q1 => by cases q1; exact ⟨c, rfl, k F1 H1 S1 g1⟩
theorem et_b (h : Ev K te env (.val (.bl c)) e1) : EvT K (tB te) env c e1 := fun b F oa σ H S Q k => h b F oa σ H S _ fun v F1 H1 S1 g1 q1 => by cases q1; exact ⟨c, rfl, k F1 H1 S1 g1⟩
theorem et_not (h : EvT K t env c e1) : EvT K (tNot t) env (!c) e1 := fun b F oa σ H S Q k => h b F oa σ H S _ fun F1 H1 S1 g1 => k F1 H1 S1 g1
theorem et_and (h1 : EvT K t env c1 e1) (h2 : c1 = true → EvT K u e1 c2 e1) : EvT K (tAnd t u) env (c1 && c2) e1 := fun b F oa σ H S Q k => h1 b F oa σ H S _ fun F1 H1 S1 g1 => by
  cases c1 with
  | false => exact k F1 H1 S1 g1
  | true => exact h2 rfl b F1 oa σ H1 S1 _ fun F2 H2 S2 g2 => k F2 H2 S2 (g1.trans g2)
theorem et_or (h1 : EvT K t env c1 e1) (h2 : c1 = false → EvT K u e1 c2 e1) : EvT K (tOr t u) env (c1 || c2) e1 := fun b F oa σ H S Q k => h1 b F oa σ H S _ fun F1 H1 S1 g1 => by
  cases c1 with
  | true => exact k F1 H1 S1 g1
  | false => exact h2 rfl b F1 oa σ H1 S1 _ fun F2 H2 S2 g2 => k F2 H2 S2 (g1.trans g2)
theorem et_is (h : EvT K t env c1 e1) (q : c1 = c2) : EvT K t env c2 e1 := q ▸ h
theorem ev_and (h1 : Ev K ta env (.val (.bl c1)) e1) (h2 : c1 = true → Ev K tb e1 (.val (.bl c2)) e1) : Ev K (tAndV ta tb) env (.val (.bl (c1 && c2))) e1 := fun b F oa σ H S Q k => h1 b F oa σ H S _ fun v F1 H1 S1 g1 q1 => by
  cases q1
  refine ⟨c1, rfl, ?_⟩
  cases c1 with
  | false => exact k _ F1 H1 S1 g1 (.bl _)
  | true => exact h2 rfl b F1 oa σ H1 S1 _ fun v F2 H2 S2 g2 q2 => k _ F2 H2 S2 (g1.trans g2) q2
theorem ev_or (h1 : Ev K ta env (.val (.bl c1)) e1) (h2 : c1 = false → Ev K tb e1 (.val (.bl c2)) e1) : Ev K (tOrV ta tb) env (.val (.bl (c1 || c2))) e1 := fun b F oa σ H S Q k => h1 b F oa σ H S _ fun v F1 H1 S1 g1 q1 => by
  cases q1
  refine ⟨c1, rfl, ?_⟩
  cases c1 with
  | true => exact k _ F1 H1 S1 g1 (.bl _)
  | false => exact h2 rfl b F1 oa σ H1 S1 _ fun v F2 H2 S2 g2 q2 => k _ F2 H2 S2 (g1.trans g2) q2
theorem ev_not (h1 : Ev K ta env (.val (.bl c1)) e1) : Ev K (tNotV ta) env (.val (.bl (!c1))) e1 := fun b F oa σ H S Q k => h1 b F oa σ H S _ fun v F1 H1 S1 g1 q1 => by
  cases q1
  exact ⟨c1, rfl, k _ F1 H1 S1 g1 (.bl _)⟩
/-- a if t else b: the same slots behind either way -/
theorem ev_if (h : EvT K t env c e1) (h1 : c = true → Ev K ta e1 r e2) (h2 : c = false → Ev K tb e1 r e2) : Ev K (tIf t ta tb) env r e2 := fun b F oa σ H S Q k => h b F oa σ H S _ fun F1 H1 S1 g1 => by
  cases c with
  | true => exact h1 rfl b F1 oa σ H1 S1 _ fun v F2 H2 S2 g2 q2 => k v F2 H2 S2 (g1.trans g2) q2
  | false => exact h2 rfl b F1 oa σ H1 S1 _ fun v F2 H2 S2 g2 q2 => k v F2 H2 S2 (g1.trans g2) q2
theorem ev_ifd (h : EvT K t env c e1) (h1 : c = true → Ev K ta e1 (.val d1) e2) (h2 : c = false → Ev K tb e1 (.val d2) e2) : Ev K (tIf t ta tb) env (.val (if c then d1 else d2)) e2 :=
  ev_if h (fun z => by subst z; exact h1 rfl) (fun z => by subst z; exact h2 rfl)

/-! ### calls of built-ins -/
theorem rd_len {b : Bs} {F : Hp} {oa : Nat → Addr} {σ : L2.St} {H : Hp} {v : V} (S : Sig K b F oa σ H env) (h : RR K F oa v r) (q : RdL env r l ∨ Rd env r (.tup l)) : LenV K v H l.length := by
  rcases q with q | q
  · obtain ⟨a, vs, e, s, p⟩ := q.g S h
    subst e
    exact .inl ⟨vs, s, p.length.symm⟩
  · obtain ⟨a, vs, e, s, p⟩ := q.tup S h
    subst e
    exact .inr ⟨vs, s, p.length.symm⟩
theorem ev_len (ha : Ev K ta env r e1) (q : RdL e1 r l ∨ Rd e1 r (.tup l)) : Ev K (tCB (rLenU K) (tCons ta tNil)) env (.val (.int (l.length : Int))) e1 :=
  ev_cb (ea_cons ha ea_nil) fun b F oa σ H vs S h Q k => by
    obtain ⟨v, rfl⟩ : ∃ v, vs = [v] := by
      match vs, h with
      | [v], _ => exact ⟨v, rfl⟩
    exact .inl ⟨v, l.length, rfl, rd_len S h.1 q, k _ F H S Stp.refl (.int _)⟩
theorem ev_lens (ha : Ev K ta env (.val (.str x)) e1) (hl : x.length ≤ sizeLine) : Ev K (tCB (rLenU K) (tCons ta tNil)) env (.val (.int (x.length : Int))) e1 :=
  ev_cb (ea_cons ha ea_nil) fun b F oa σ H vs S h Q k => by
    obtain ⟨v, rfl⟩ : ∃ v, vs = [v] := by
      match vs, h with
      | [v], _ => exact ⟨v, rfl⟩
    cases h.1
    exact .inl ⟨_, _, rfl, ⟨hl, rfl⟩, k _ F H S Stp.refl (.int _)⟩
theorem ev_abs (ha : Ev K ta env (.val (.int i)) e1) : Ev K (tCB rAbs (tCons ta tNil)) env (.val (.int (if i < 0 then -i else i))) e1 :=
  ev_cb (ea_cons ha ea_nil) fun b F oa σ H vs S h Q k => by
    match vs, h with
    | [v], h => cases h.1; exact ⟨i, rfl, k _ F H S Stp.refl (.int _)⟩
theorem ev_max2 (ha : Ev K ta env (.val (.int i)) e1) (hb : Ev K tb e1 (.val (.int j)) e2) : Ev K (tCB rMax2 (tCons ta (tCons tb tNil))) env (.val (.int (if j > i then j else i))) e2 :=
  ev_cb (ea_cons ha (ea_cons hb ea_nil)) fun b F oa σ H vs S h Q k => by
    match vs, h with
    | [v, w], h => cases h.1; cases h.2.1; exact ⟨i, j, rfl, k _ F H S Stp.refl (.int _)⟩
theorem ev_min2 (ha : Ev K ta env (.val (.int i)) e1) (hb : Ev K tb e1 (.val (.int j)) e2) : Ev K (tCB rMin2 (tCons ta (tCons tb tNil))) env (.val (.int (if j < i then j else i))) e2 :=
  ev_cb (ea_cons ha (ea_cons hb ea_nil)) fun b F oa σ H vs S h Q k => by
    match vs, h with
    | [v, w], h => cases h.1; cases h.2.1; exact ⟨i, j, rfl, k _ F H S Stp.refl (.int _)⟩
theorem ev_int1 (ha : Ev K ta env (.val (.int i)) e1) : Ev K (tCB rInt1 (tCons ta tNil)) env (.val (.int i)) e1 :=
  ev_cb (ea_cons ha ea_nil) fun b F oa σ H vs S h Q k => by
    match vs, h with
    | [v], h => cases h.1; exact .inl ⟨i, rfl, k _ F H S Stp.refl (.int _)⟩
theorem ev_int1b (ha : Ev K ta env (.val (.bl c)) e1) : Ev K (tCB rInt1 (tCons ta tNil)) env (.val (.int (if c then 1 else 0))) e1 :=
  ev_cb (ea_cons ha ea_nil) fun b F oa σ H vs S h Q k => by
    match vs, h with
    | [v], h => cases h.1; exact .inr ⟨c, rfl, k _ F H S Stp.refl (.int _)⟩
theorem ev_all {bs : List Bool} (ha : Ev K ta env r e1) (q : RdL e1 r (bs.map D.bl)) : Ev K (tCB (rAll K) (tCons ta tNil)) env (.val (.bl (bs.all id))) e1 :=
  ev_cb (ea_cons ha ea_nil) fun b F oa σ H vs S h Q k => by
    match vs, h with
    | [v], h =>
      obtain ⟨a, ws, rfl, s, p⟩ := q.g S h.1
      have e := p.bools
      subst e
      exact ⟨a, bs, rfl, s, k _ F H S Stp.refl (.bl _)⟩
theorem ev_any {bs : List Bool} (ha : Ev K ta env r e1) (q : RdL e1 r (bs.map D.bl)) : Ev K (tCB (rAny K) (tCons ta tNil)) env (.val (.bl (bs.any id))) e1 :=
  ev_cb (ea_cons ha ea_nil) fun b F oa σ H vs S h Q k => by
    match vs, h with
    | [v], h =>
      obtain ⟨a, ws, rfl, s, p⟩ := q.g S h.1
      have e := p.bools
      subst e
      exact ⟨a, bs, rfl, s, k _ F H S Stp.refl (.bl _)⟩
theorem ev_sum {ns : List Int} (ha : Ev K ta env r e1) (q : RdL e1 r (ns.map D.int)) : Ev K (tCB (rSum K) (tCons ta tNil)) env (.val (.int ns.sum)) e1 :=
  ev_cb (ea_cons ha ea_nil) fun b F oa σ H vs S h Q k => by
    match vs, h with
    | [v], h =>
      obtain ⟨a, ws, rfl, s, p⟩ := q.g S h.1
      have e := p.ints
      subst e
      exact ⟨a, ns, rfl, s, k _ F H S Stp.refl (.int _)⟩
/-- the class that isinstance sees, of data -/
def tyD : D → Option String
  | .non => some "NoneType"
  | .bl _ => some "bool"
  | .int _ => some "int"
  | .str _ => some "str"
  | .tup _ => some "tuple"
  | .lst _ => some "list"
  | .dic _ => some "dict"
  | .dit _ => some "dict"
  | _ => none
end
end DL

namespace DL
open PySem L2

section
variable {K : PySem.W.Frag} {te ta tb tc : TE} {t u : TT} {env e1 e2 e3 : Env} {r r1 r2 : Res} {d d1 d2 : D} {o : OB} {i j : Int} {x y : Str} {c c1 c2 : Bool} {l m : List D}
/-! ### isinstance -/
theorem ty_rep {F H : Hp} {v : V} {n : String} (e : Ex F H) (h : Rep K F v d) (q : tyD d = some n) : TyX K H v (.type n) := by
  cases h with
  | non => cases (show some "NoneType" = some n from q); exact .base .non
  | bl b => cases (show some "bool" = some n from q); exact .base (.bl b)
  | int b => cases (show some "int" = some n from q); exact .base (.int b)
  | str b => cases (show some "str" = some n from q); exact .base (.str b)
  | ty b => cases (show none = some n from q)
  | ref b => cases (show none = some n from q)
  | tup h r =>
    cases (show some "tuple" = some n from q)
    rcases h with (h | ⟨o, h⟩) | ⟨o, its, n, h1, h2, _⟩
    · exact .base (.tup (e _ _ h))
    · exact .fTuple (e _ _ h)
    · exact .kTuple h1 h2
  | lst h r => cases (show some "list" = some n from q); exact .base (.lst (e _ _ h))
  | scr h r => cases (show none = some n from q)
  | dic h _ _ => cases (show some "dict" = some n from q); exact .base (.dK (e _ _ h))
  | dit h _ _ => cases (show some "dict" = some n from q); exact .base (.dT (e _ _ h))
  | obj h _ _ => cases (show none = some n from q)
  | exc h => cases (show none = some n from q)
theorem ev_isi {n m : String} (ha : Ev K ta env r e1) (hb : Ev K tb e1 (.val (.ty m)) e2) (q : Rd e2 r d) (ht : tyD d = some n) (hk : PySem.W.kitOne K (.type n) (.type m) = some c) :
    Ev K (tCB (rIsi K) (tCons ta (tCons tb tNil))) env (.val (.bl c)) e2 :=
  ev_cb (ea_cons ha (ea_cons hb ea_nil)) fun b F oa σ H vs S h Q k => by
    match vs, h with
    | [v, w], h =>
      cases h.2.1
      exact ⟨v, .ty m, .type n, .type m, c, rfl, .ty m, ty_rep (Ex.refl _) (q.rep S h.1) ht, hk, k _ F H S Stp.refl (.bl _)⟩

/-! ### subscripts -/
theorem ev_ixl {j : Nat} {i : Int} (ha : Ev K ta env r e1) (hb : Ev K tb e1 (.val (.int i)) e2) (q : RdL e2 r l) (hi : atI l i = some d) : Ev K (tOp (rIx K) ta tb) env (.val d) e2 :=
  ev_op ha hb fun b F oa σ H v w S h1 h2 Q k => by
    cases h2
    obtain ⟨a, vs, rfl, s, p⟩ := q.g S h1
    unfold atI at hi
    obtain ⟨n, e, g⟩ := Option.bind_eq_some_iff.mp hi
    obtain ⟨z, z1, z2⟩ := p.get g
    refine .inl ⟨a, vs, i, z, rfl, rfl, s, ?_, k z F H S Stp.refl z2⟩
    unfold atI
    rw [p.length, e]
    exact z1
theorem ev_ixt {i : Int} (ha : Ev K ta env r e1) (hb : Ev K tb e1 (.val (.int i)) e2) (q : Rd e2 r (.tup l)) (hi : atI l i = some d) : Ev K (tOp (rIx K) ta tb) env (.val d) e2 :=
  ev_op ha hb fun b F oa σ H v w S h1 h2 Q k => by
    cases h2
    obtain ⟨a, vs, rfl, s, p⟩ := q.tup S h1
    unfold atI at hi
    obtain ⟨n, e, g⟩ := Option.bind_eq_some_iff.mp hi
    obtain ⟨z, z1, z2⟩ := p.get g
    refine .inr (.inl ⟨a, vs, i, z, rfl, rfl, s, ?_, k z F H S Stp.refl z2⟩)
    unfold atI
    rw [p.length, e]
    exact z1
theorem ev_ixs {i : Int} {n : Nat} (ha : Ev K ta env (.val (.str x)) e1) (hb : Ev K tb e1 (.val (.int i)) e2) (hl : x.length ≤ sizeLine) (hi : atI x.cps.toList i = some n) : Ev K (tOp (rIx K) ta tb) env (.val (.str ⟨#[n]⟩)) e2 :=
  ev_op ha hb fun b F oa σ H v w S h1 h2 Q k => by
    cases h1; cases h2
    exact .inr (.inr ⟨x, i, n, rfl, rfl, hl, hi, k _ F H S Stp.refl (.str _)⟩)
theorem eo_none : EvO K tNoPart env none env := fun b F oa σ H S Q k => k F H S Stp.refl
theorem eo_some (h : Ev K te env (.val (.int i)) e1) : EvO K (tPart te) env (some i) e1 := fun b F oa σ H S Q k => h b F oa σ H S _ fun v F1 H1 S1 g1 q1 => by
  cases q1; exact ⟨i, rfl, k F1 H1 S1 g1⟩
def cutD {α : Type} (xs : List α) (lo hi : Option Int) : List α := (xs.drop (HT.sIx xs.length 0 lo)).take (HT.sIx xs.length xs.length hi - HT.sIx xs.length 0 lo)
theorem cut_rep {F : Hp} {vs : List V} {lo hi : Option Int} (h : RepL K F vs l) : RepL K F (cutV vs lo hi) (cutD l lo hi) := by
  unfold cutV cutD
  rw [h.length]
  exact (h.drop _).take _
theorem en_sll {tl th : TO} {lo hi : Option Int} (ha : Ev K te env r e1) (h1 : EvO K tl e1 lo e2) (h2 : EvO K th e2 hi e3) (q : RdL e3 r l) : EvN K (tSl (rSlU K) te tl th) env (.lst (cutD l lo hi)) e3 :=
  fun b F oa σ H S Q k => ha b F oa σ H S _ fun v F1 H1 S1 g1 q1 => h1 b F1 oa σ H1 S1 _ fun F2 H2 S2 g2 => h2 b F2 oa σ H2 S2 _ fun F3 H3 S3 g3 => by
    obtain ⟨a, vs, rfl, s, p⟩ := q.g S3 ((q1.mono g2.ff).mono g3.ff)
    refine .inl ⟨a, vs, rfl, s, fun p' hp => ?_⟩
    obtain ⟨S4, gn, n⟩ := en_new (o := .lst (cutD l lo hi)) (u := .lst (cutV vs lo hi)) S3 hp ⟨_, upd_same, cut_rep p⟩
    exact k _ _ _ S4 (((g1.trans g2).trans g3).trans gn) (((g1.trans g2).trans g3).none hp) n
theorem ev_slt {tl th : TO} {lo hi : Option Int} (ha : Ev K te env r e1) (h1 : EvO K tl e1 lo e2) (h2 : EvO K th e2 hi e3) (q : Rd e3 r (.tup l)) : Ev K (tSl (rSlU K) te tl th) env (.val (.tup (cutD l lo hi))) e3 :=
  fun b F oa σ H S Q k => ha b F oa σ H S _ fun v F1 H1 S1 g1 q1 => h1 b F1 oa σ H1 S1 _ fun F2 H2 S2 g2 => h2 b F2 oa σ H2 S2 _ fun F3 H3 S3 g3 => by
    have z : RR K F3 oa v r := (q1.mono g2.ff).mono g3.ff
    have zz : Rep K F3 v (.tup l) := by
      cases r with
      | val e => cases (show e = .tup l from q); exact z
      | slot i => obtain ⟨o, e, w⟩ := q; cases o <;> cases w
    cases zz with
    | tup h p =>
      rename_i a vs
      refine .inr (.inl ⟨a, vs, rfl, S3.g.fh.t h, fun hw => ?_, fun _ p' hp => ?_⟩)
      · refine k _ _ _ S3 ((g1.trans g2).trans g3) ?_
        have e : cutD l lo hi = l := by
          unfold cutD
          rw [← p.length, hw.1, hw.2]
          simp [p.length]
        rw [e]
        exact .tup h p
      · refine k _ _ _ (S3.new hp) (((g1.trans g2).trans g3).trans (Stp.new hp (S3.g.fh.back hp))) ?_
        exact .tup (.inl (.inl upd_same)) ((cut_rep p).mono (Ex.new (S3.g.fh.back hp)))
theorem ev_sls {tl th : TO} {lo hi : Option Int} (ha : Ev K te env (.val (.str x)) e1) (h1 : EvO K tl e1 lo e2) (h2 : EvO K th e2 hi e3) (hl : x.length ≤ sizeLine) : Ev K (tSl (rSlU K) te tl th) env (.val (.str (cutS x lo hi))) e3 :=
  fun b F oa σ H S Q k => ha b F oa σ H S _ fun v F1 H1 S1 g1 q1 => h1 b F1 oa σ H1 S1 _ fun F2 H2 S2 g2 => h2 b F2 oa σ H2 S2 _ fun F3 H3 S3 g3 => by
    cases q1
    exact .inr (.inr ⟨x, rfl, hl, k _ _ _ S3 ((g1.trans g2).trans g3) (.str _)⟩)

/-! ### displays, list(..), tuple(..), + -/
theorem en_lst {ts : TA} {rs : List Res} {ds : List D} (h : EvA K ts env rs e1) (q : vals rs = some ds) (hl : ds.length ≤ sizeLine) : EvN K (tLst ts) env (.lst ds) e1 := fun b F oa σ H S Q k =>
  h b F oa σ H S _ fun vs F1 H1 S1 g1 q1 => by
    have p := vals_rep q1 q
    refine ⟨by rw [p.length]; exact hl, fun p' hp => ?_⟩
    obtain ⟨S4, gn, n⟩ := en_new (o := .lst ds) (u := .lst vs) S1 hp ⟨_, upd_same, p⟩
    exact k _ _ _ S4 (g1.trans gn) (g1.none hp) n
theorem ev_tup {ts : TA} {rs : List Res} {ds : List D} (h : EvA K ts env rs e1) (q : vals rs = some ds) (hl : ds.length ≤ sizeLine) : Ev K (tTup ts) env (.val (.tup ds)) e1 := fun b F oa σ H S Q k =>
  h b F oa σ H S _ fun vs F1 H1 S1 g1 q1 => by
    have p := vals_rep q1 q
    refine ⟨by rw [p.length]; exact hl, fun p' hp => ?_⟩
    exact k _ _ _ (S1.new hp) (g1.trans (Stp.new hp (S1.g.fh.back hp))) (.tup (.inl (.inl upd_same)) (p.mono (Ex.new (S1.g.fh.back hp))))
theorem en_listof (h : Ev K ta env r e1) (q : RdL e1 r l ∨ Rd e1 r (.tup l)) : EvN K (tCB (rListOf K) (tCons ta tNil)) env (.lst l) e1 := fun b F oa σ H S Q k =>
  h b F oa σ H S _ fun v F1 H1 S1 g1 q1 => by
    rcases q with q | q
    · obtain ⟨a, vs, rfl, s, p⟩ := q.g S1 q1
      refine ⟨a, vs, rfl, .inl s, fun p' hp => ?_⟩
      obtain ⟨S4, gn, n⟩ := en_new (o := .lst l) (u := .lst vs) S1 hp ⟨_, upd_same, p⟩
      exact k _ _ _ S4 (g1.trans gn) (g1.none hp) n
    · obtain ⟨a, vs, rfl, s, p⟩ := q.tup S1 q1
      refine ⟨a, vs, rfl, .inr s, fun p' hp => ?_⟩
      obtain ⟨S4, gn, n⟩ := en_new (o := .lst l) (u := .lst vs) S1 hp ⟨_, upd_same, p⟩
      exact k _ _ _ S4 (g1.trans gn) (g1.none hp) n
theorem ev_tupleof (h : Ev K ta env r e1) (q : RdL e1 r l) : Ev K (tCB (rTupleOf K) (tCons ta tNil)) env (.val (.tup l)) e1 := fun b F oa σ H S Q k =>
  h b F oa σ H S _ fun v F1 H1 S1 g1 q1 => by
    obtain ⟨a, vs, rfl, s, p⟩ := q.g S1 q1
    refine ⟨a, vs, rfl, .inl ⟨s, fun p' hp => ?_⟩⟩
    exact k _ _ _ (S1.new hp) (g1.trans (Stp.new hp (S1.g.fh.back hp))) (.tup (.inl (.inl upd_same)) (p.mono (Ex.new (S1.g.fh.back hp))))
theorem en_addl (ha : Ev K ta env r1 e1) (hb : Ev K tb e1 r2 e2) (h1 : Rd e2 r1 (.lst l)) (h2 : Rd e2 r2 (.lst m)) (hz : l.length + m.length ≤ sizeLine) : EvN K (tOp (rAddU K) ta tb) env (.lst (l ++ m)) e2 := fun b F oa σ H S Q k =>
  ha b F oa σ H S _ fun v F1 H1 S1 g1 q1 => hb b F1 oa σ H1 S1 _ fun w F2 H2 S2 g2 q2 => by
    obtain ⟨a, vs, rfl, s, p⟩ := h1.lst' S2 (q1.mono g2.ff)
    obtain ⟨a', ws, rfl, s', p'⟩ := h2.lst' S2 q2
    refine .inr (.inr (.inr ⟨a, a', vs, ws, rfl, rfl, s, s', by rw [p.length, p'.length]; exact hz, fun q hp => ?_⟩))
    obtain ⟨S4, gn, n⟩ := en_new (o := .lst (l ++ m)) (u := .lst (vs ++ ws)) S2 hp ⟨_, upd_same, p.append p'⟩
    exact k _ _ _ S4 ((g1.trans g2).trans gn) ((g1.trans g2).none hp) n
theorem ev_addt (ha : Ev K ta env (.val (.tup l)) e1) (hb : Ev K tb e1 (.val (.tup m)) e2) (hz : l.length + m.length ≤ sizeLine) : Ev K (tOp (rAddU K) ta tb) env (.val (.tup (l ++ m))) e2 := fun b F oa σ H S Q k =>
  ha b F oa σ H S _ fun v F1 H1 S1 g1 q1 => hb b F1 oa σ H1 S1 _ fun w F2 H2 S2 g2 q2 => by
    have q1' : Rep K F2 v (.tup l) := Rep.mono g2.ff q1
    cases q1' with
    | tup s p =>
      cases q2 with
      | tup s' p' =>
        rename_i a vs a' ws
        refine .inr (.inr (.inl ⟨a, a', vs, ws, rfl, rfl, S2.g.fh.t s, S2.g.fh.t s', by rw [p.length, p'.length]; exact hz, fun e => ?_, fun _ e => ?_, fun _ _ z hp => ?_⟩))
        · subst e
          cases p
          exact k _ _ _ S2 (g1.trans g2) (.tup s' p')
        · subst e
          cases p'
          rw [List.append_nil] at k
          exact k _ _ _ S2 (g1.trans g2) (.tup s p)
        · exact k _ _ _ (S2.new hp) ((g1.trans g2).trans (Stp.new hp (S2.g.fh.back hp))) (.tup (.inl (.inl upd_same)) ((p.append p').mono (Ex.new (S2.g.fh.back hp))))

/-! ### what is walked -/
/-- n things, the i-th is Y i; all stand, or each is a new tuple -/
def EvI (K : PySem.W.Frag) (wi : TI) (env : Env) (ds : List D) (env' : Env) : Prop := ∀ (b : Bs) (F : Hp) (oa : Nat → Addr) (σ : L2.St) (H : Hp), Sig K b F oa σ H env → ∀ R : It → Hp → Prop,
  (∀ J F' H', Sig K b F' oa σ H' env' → Stp oa env F H env' F' H' → (∃ (G : Hp → Prop) (Y : Nat → Hp → V → Hp → Prop), Walk J ds.length G Y ∧ (∀ H1, Ex F' H1 → G H1) ∧ ∀ i d x F1 H1 H2, ds[i]? = some d → Ex F' F1 → Ex F1 H1 → Y i H1 x H2 → (H2 = H1 ∧ Rep K F' x d) ∨ (∃ T vs l, d = .tup l ∧ x = .ref T ∧ H1 T = none ∧ H2 = upd H1 T (.tup vs) ∧ RepL K F' vs l)) → R J H') → wi σ H R
/-- a list that stands -/
theorem ei_list (h : Ev K te env (.val (.lst l)) e1) : EvI K (iList K te) env l e1 := fun b F oa σ H S R k => h b F oa σ H S _ fun v F1 H1 S1 g1 q1 => by
  cases q1 with
  | lst s p =>
    rename_i a vs
    refine ⟨a, rfl, ⟨vs, .inl (.inl (S1.g.fh _ _ s))⟩, k _ F1 H1 S1 g1 ⟨fun H => SqL K H a vs, YAt vs, by rw [← p.length]; exact walk_list, fun H2 e => .inl (.inl (e _ _ s)), fun i d x F2 H2 H3 e _ _ y => .inl ⟨y.1, ?_⟩⟩⟩
    obtain ⟨z, z1, z2⟩ := p.get e
    rw [y.2] at z1; cases z1; exact z2
theorem ei_scr (h : Ev K te env (.val (.scr l)) e1) : EvI K (iList K te) env l e1 := fun b F oa σ H S R k => h b F oa σ H S _ fun v F1 H1 S1 g1 q1 => by
  cases q1 with
  | scr s p =>
    rename_i a vs
    refine ⟨a, rfl, ⟨vs, S1.g.fh.l s⟩, k _ F1 H1 S1 g1 ⟨fun H => SqL K H a vs, YAt vs, by rw [← p.length]; exact walk_list, fun H2 e => e.l s, fun i d x F2 H2 H3 e _ _ y => .inl ⟨y.1, ?_⟩⟩⟩
    obtain ⟨z, z1, z2⟩ := p.get e
    rw [y.2] at z1; cases z1; exact z2
theorem ei_tup (h : Ev K te env (.val (.tup l)) e1) : EvI K (iTup K te) env l e1 := fun b F oa σ H S R k => h b F oa σ H S _ fun v F1 H1 S1 g1 q1 => by
  cases q1 with
  | tup s p =>
    rename_i a vs
    refine ⟨a, rfl, ⟨vs, S1.g.fh.t s⟩, k _ F1 H1 S1 g1 ⟨fun H => SqT K H a vs, YAt vs, by rw [← p.length]; exact walk_tup, fun H2 e => e.t s, fun i d x F2 H2 H3 e _ _ y => .inl ⟨y.1, ?_⟩⟩⟩
    obtain ⟨z, z1, z2⟩ := p.get e
    rw [y.2] at z1; cases z1; exact z2
/-- both: for x in e, by what e is -/
def iSeqU (K : PySem.W.Frag) (te : TE) : TI := fun σ H R => iList K te σ H R ∨ (iTup K te σ H R ∨ iStr te σ H R)
theorem PI.or {X : Cx} {tg e : Expr} {w1 w2 : TI} (h1 : PI X tg e w1) (h2 : PI X tg e w2) : PI X tg e (fun σ H R => w1 σ H R ∨ w2 σ H R) := ⟨fun pins s σ H R I h => by
  rcases h with h | h
  · exact h1.run pins s σ H R I h
  · exact h2.run pins s σ H R I h⟩
theorem pi_seqU {X : Cx} {K : PySem.W.Frag} {tg e : Expr} {te : TE} (h : PE X e te) (q : X.K = K := by rfl) : PI X tg e (iSeqU K te) := by subst q; exact PI.or (pi_list h) (PI.or (pi_tup h) (pi_str h))
theorem ei_or1 {w1 w2 : TI} (h : EvI K w1 env l e1) : EvI K (fun σ H R => w1 σ H R ∨ w2 σ H R) env l e1 := fun b F oa σ H S R k => .inl (h b F oa σ H S R k)
theorem ei_or2 {w1 w2 : TI} (h : EvI K w2 env l e1) : EvI K (fun σ H R => w1 σ H R ∨ w2 σ H R) env l e1 := fun b F oa σ H S R k => .inr (h b F oa σ H S R k)
theorem ei_l (h : Ev K te env (.val (.lst l)) e1) : EvI K (iSeqU K te) env l e1 := ei_or1 (ei_list h)
theorem ei_s (h : Ev K te env (.val (.scr l)) e1) : EvI K (iSeqU K te) env l e1 := ei_or1 (ei_scr h)
theorem ei_t (h : Ev K te env (.val (.tup l)) e1) : EvI K (iSeqU K te) env l e1 := ei_or2 (ei_or1 (ei_tup h))
theorem ei_str (h : Ev K te env (.val (.str x)) e1) : EvI K (iSeqU K te) env (x.cps.toList.map fun c => .str ⟨#[c]⟩) e1 := ei_or2 (ei_or2 (fun b F oa σ H S R k => h b F oa σ H S _ fun v F1 H1 S1 g1 q1 => by
  cases q1
  refine ⟨x, rfl, k _ F1 H1 S1 g1 ⟨fun _ => True, (fun i H v H' => H' = H ∧ ∃ c, x.cps[i]? = some c ∧ v = .str ⟨#[c]⟩), by rw [List.length_map, Array.length_toList]; exact walk_str, fun _ _ => trivial, fun i d y F2 H2 H3 e _ _ z => .inl ⟨z.1, ?_⟩⟩⟩
  obtain ⟨_, c, h1, h2⟩ := z
  rw [List.getElem?_map, Array.getElem?_toList, h1] at e
  cases e
  rw [h2]
  exact .str _))
/-- the ints of a range -/
def rng (lo : Int) (n : Nat) : List D := (List.range n).map fun i => .int (lo + (i : Nat))
def rngC (lo c : Int) (n : Nat) : List D := (List.range n).map fun i => .int (lo + (i : Nat) * c)
theorem rng_get {lo : Int} {n i : Nat} {d : D} (h : (rng lo n)[i]? = some d) : d = .int (lo + (i : Nat)) ∧ i < n := by
  unfold rng at h
  rw [List.getElem?_map] at h
  by_cases q : i < n
  · rw [List.getElem?_range q] at h; cases h; exact ⟨rfl, q⟩
  · rw [List.getElem?_eq_none (by simpa using Nat.le_of_not_lt q)] at h; cases h
theorem rngC_get {lo c : Int} {n i : Nat} {d : D} (h : (rngC lo c n)[i]? = some d) : d = .int (lo + (i : Nat) * c) ∧ i < n := by
  unfold rngC at h
  rw [List.getElem?_map] at h
  by_cases q : i < n
  · rw [List.getElem?_range q] at h; cases h; exact ⟨rfl, q⟩
  · rw [List.getElem?_eq_none (by simpa using Nat.le_of_not_lt q)] at h; cases h
theorem rng_len {lo : Int} {n : Nat} : (rng lo n).length = n := by unfold rng; simp
theorem rngC_len {lo c : Int} {n : Nat} : (rngC lo c n).length = n := by unfold rngC; simp
theorem ei_r1 (h : Ev K te env (.val (.int j)) e1) (h0 : j < 2 ^ 62) (h1 : -(2 ^ 62) ≤ j) : EvI K (iRng1 (tCons te tNil)) env (rng 0 j.toNat) e1 := fun b F oa σ H S R k => h b F oa σ H S _ fun v F1 H1 S1 g1 q1 => by
  cases q1
  refine ⟨j, rfl, h1, h0, k _ F1 H1 S1 g1 ⟨fun _ => True, (YFn fun i => .int (0 + i)), by rw [rng_len]; exact walk_range, fun _ _ => trivial, fun i d x F2 H2 H3 e _ _ y => .inl ⟨y.1, ?_⟩⟩⟩
  obtain ⟨e1, _⟩ := rng_get e
  rw [y.2, e1]
  exact .int _
theorem ei_r2 (ha : Ev K ta env (.val (.int i)) e1) (hb : Ev K tb e1 (.val (.int j)) e2) (h0 : -(2 ^ 62) ≤ i ∧ i < 2 ^ 62 ∧ -(2 ^ 62) ≤ j ∧ j < 2 ^ 62) : EvI K (iRng2 (tCons ta (tCons tb tNil))) env (rng i (j - i).toNat) e2 := fun b F oa σ H S R k =>
  ha b F oa σ H S _ fun v F1 H1 S1 g1 q1 => hb b F1 oa σ H1 S1 _ fun w F2 H2 S2 g2 q2 => by
  cases q1
  cases q2
  refine ⟨i, j, rfl, h0, k _ F2 H2 S2 (g1.trans g2) ⟨fun _ => True, (YFn fun n => .int (i + n)), by rw [rng_len]; exact walk_range, fun _ _ => trivial, fun n d x F2 H2 H3 e _ _ y => .inl ⟨y.1, ?_⟩⟩⟩
  obtain ⟨e1, _⟩ := rng_get e
  rw [y.2, e1]
  exact .int _
theorem ei_r3 {c : Int} {n : Nat} (ha : Ev K ta env (.val (.int i)) e1) (hb : Ev K tb e1 (.val (.int j)) e2) (hc : Ev K tc e2 (.val (.int c)) e3) (h0 : RgC i j c n) : EvI K (iRng3 (tCons ta (tCons tb (tCons tc tNil)))) env (rngC i c n) e3 := fun b F oa σ H S R k =>
  ha b F oa σ H S _ fun v F1 H1 S1 g1 q1 => hb b F1 oa σ H1 S1 _ fun w F2 H2 S2 g2 q2 => hc b F2 oa σ H2 S2 _ fun w F3 H3 S3 g3 q3 => by
  cases q1
  cases q2
  cases q3
  refine ⟨i, j, c, n, rfl, h0, k _ F3 H3 S3 ((g1.trans g2).trans g3) ⟨fun _ => True, (YFn fun n => .int (i + (n : Nat) * c)), by rw [rngC_len]; exact walk_rangeC, fun _ _ => trivial, fun n d x F2 H2 H3 e _ _ y => .inl ⟨y.1, ?_⟩⟩⟩
  obtain ⟨e1, _⟩ := rngC_get e
  rw [y.2, e1]
  exact .int _
end
end DL

namespace DL
open PySem L2

/-! ### targets -/
/-- the target's slots, and nothing else: σ' is σ but at js -/
def EvGs (K : PySem.W.Frag) (g : TG) (js : List Nat) (d : D) (env env' : Env) : Prop := ∀ (b : Bs) (F : Hp) (oa : Nat → Addr) (σ : L2.St) (H : Hp) (v : V), Sig K b F oa σ H env → Rep K F v d → ∀ Q : L2.St → Hp → Prop,
  (∀ σ', Sig K b F oa σ' H env' → σ'.length = σ.length → (∀ i : Nat, i ∉ js → σ'[i]? = σ[i]?) → Q σ' H) → g v σ H Q
section
variable {K : PySem.W.Frag} {te ta tb tc : TE} {t u : TT} {env env' e1 e2 e3 : Env} {r r1 r2 : Res} {d d1 d2 : D} {o : OB} {i j : Nat} {c c1 c2 : Bool} {l m : List D} {g : TG}
theorem eg_name : EvGs K (gName j) [j] d env (env.set j (.val d)) := fun b F oa σ H v S h Q k => k _ (S.set h) (by simp) fun i hi => by
  rw [List.getElem?_set_ne (by intro z; exact hi (by simp [z]))]
/-- targets one by one -/
def EvGl (K : PySem.W.Frag) (g : TGs) (js : List Nat) (ds : List D) (env env' : Env) : Prop := ∀ (b : Bs) (F : Hp) (oa : Nat → Addr) (σ : L2.St) (H : Hp) (vs : List V), Sig K b F oa σ H env → RepL K F vs ds → ∀ Q : L2.St → Hp → Prop,
  (∀ σ', Sig K b F oa σ' H env' → σ'.length = σ.length → (∀ i : Nat, i ∉ js → σ'[i]? = σ[i]?) → Q σ' H) → g vs σ H Q
theorem egl_nil : EvGl K gNil [] [] env env := fun b F oa σ H vs S h Q k => by
  cases h
  exact ⟨rfl, k σ S rfl fun _ _ => rfl⟩
theorem egl_cons {gs : TGs} {js : List Nat} {ds : List D} (h : EvGs K g [j] d env e1) (hs : EvGl K gs js ds e1 e2) : EvGl K (gCons g gs) (j :: js) (d :: ds) env e2 := fun b F oa σ H vs S p Q k => by
  cases p with
  | cons p1 p2 =>
    refine ⟨_, _, rfl, h b F oa σ H _ S p1 _ fun σ1 S1 l1 q1 => hs b F oa σ1 H _ S1 p2 Q fun σ2 S2 l2 q2 => k σ2 S2 (l2.trans l1) fun i hi => ?_⟩
    rw [q2 i (fun z => hi (List.mem_cons_of_mem _ z)), q1 i (fun z => hi (by simp at z; simp [z]))]
theorem eg_tup {gs : TGs} {js : List Nat} {n : Nat} (h : EvGl K gs js l env e1) (hn : l.length = n) : EvGs K (gTup K n gs) js (.tup l) env e1 := fun b F oa σ H v S p Q k => by
  cases p with
  | tup s p => exact ⟨_, _, rfl, S.g.fh.t s, by rw [p.length]; exact hn, h b F oa σ H _ S p Q k⟩

/-! ### comprehensions -/
def wipeE (env : Env) : List Nat → Env
  | [] => env
  | v :: vs => (wipeE env vs).set v .any
theorem wipeE_len (env : Env) : ∀ vs : List Nat, (wipeE env vs).length = env.length
  | [] => rfl
  | v :: vs => by unfold wipeE; rw [List.length_set, wipeE_len env vs]
theorem wipeE_get {x : EV} : ∀ {vs : List Nat} {i : Nat}, (wipeE env vs)[i]? = some x → x = .any ∨ (i ∉ vs ∧ env[i]? = some x)
  | [], i, h => .inr ⟨by simp, h⟩
  | v :: vs, i, h => by
    unfold wipeE at h
    by_cases q : v = i
    · subst q
      rw [List.getElem?_set] at h
      split at h
      · split at h
        · cases h; exact .inl rfl
        · cases h
      · rename_i z; exact absurd rfl z
    · rw [List.getElem?_set_ne q] at h
      rcases wipeE_get h with z | ⟨z1, z2⟩
      · exact .inl z
      · exact .inr ⟨by simp only [List.mem_cons, not_or]; exact ⟨fun z => q z.symm, z1⟩, z2⟩
theorem wipe_out {σ : L2.St} : ∀ {vs : List Nat} {i : Nat}, i ∉ vs → (wipe σ vs)[i]? = σ[i]?
  | [], _, _ => rfl
  | v :: vs, i, h => by
    simp only [List.mem_cons, not_or] at h
    unfold wipe
    rw [List.getElem?_set_ne (Ne.symm h.1), wipe_out h.2]
theorem Sig.wiped {b : Bs} {F : Hp} {oa : Nat → Addr} {σ : L2.St} {H : Hp} (S : Sig K b F oa σ H env) (vs : List Nat) : Sig K b F oa (L2.wipe σ vs) H (wipeE env vs) where
  g := S.g
  len := by rw [wipe_length, wipeE_len, S.len]
  val := fun i d e => by
    rcases wipeE_get e with q | ⟨q, e⟩
    · cases q
    · rw [wipe_out q]; exact S.val i d e
  own := fun i o e => by
    rcases wipeE_get e with q | ⟨q, e⟩
    · cases q
    · rw [wipe_out q]; exact S.own i o e
  dist := fun i j o u e f z => by
    rcases wipeE_get e with q | ⟨_, e⟩
    · cases q
    · rcases wipeE_get f with q | ⟨_, f⟩
      · cases q
      · exact S.dist i j o u e f z
  fix := S.fix
/-- behind a turn: the slots vs as they were ahead, the others as they are -/
def back (vs : List Nat) : Nat → Env → Env → Env
  | n, a :: r, x :: s => (if vs.contains n then a else x) :: back vs (n + 1) r s
  | _, _, _ => []
theorem back_get {vs : List Nat} : ∀ {env e2 : Env} {n i : Nat}, env.length = e2.length → (back vs n env e2)[i]? = if vs.contains (n + i) then env[i]? else e2[i]?
  | [], [], _, i, _ => by unfold back; simp
  | [], _ :: _, _, _, h => by simp at h
  | _ :: _, [], _, _, h => by simp at h
  | a :: r, x :: s, n, 0, _ => by
    unfold back
    rw [Nat.add_zero]
    show some (if vs.contains n = true then a else x) = if vs.contains n = true then some a else some x
    split <;> rfl
  | a :: r, x :: s, n, i + 1, h => by
    unfold back
    rw [List.getElem?_cons_succ, back_get (by simpa using h), show n + 1 + i = n + (i + 1) by omega]
    rfl
theorem back_len {vs : List Nat} : ∀ {env e2 : Env} {n : Nat}, env.length = e2.length → (back vs n env e2).length = env.length
  | [], [], _, _ => rfl
  | [], _ :: _, _, h => by simp at h
  | _ :: _, [], _, h => by simp at h
  | a :: r, x :: s, n, h => by
    unfold back
    rw [List.length_cons, List.length_cons, back_len (by simpa using h)]
def noOwn (vs : List Nat) (env : Env) : Prop := ∀ (i : Nat) (o : OB), i ∈ vs → env[i]? ≠ some (.own o)
theorem Sig.unwipe {b : Bs} {F F2 : Hp} {oa : Nat → Addr} {σ σ2 : L2.St} {H H2 : Hp} {vs : List Nat} (S : Sig K b F oa σ H env) (S2 : Sig K b F2 oa σ2 H2 e2) (e : Ex F F2) (l : σ2.length = σ.length) (q : ∀ i : Nat, i ∉ vs → σ2[i]? = (wipe σ vs)[i]?) (n : noOwn vs env) :
    Sig K b F2 oa σ H2 (back vs 0 env e2) := by
  have hl : env.length = e2.length := by rw [← S.len, ← S2.len, l]
  have z : ∀ (i : Nat) (x : EV), (back vs 0 env e2)[i]? = some x → (i ∈ vs ∧ env[i]? = some x) ∨ (i ∉ vs ∧ e2[i]? = some x ∧ σ[i]? = σ2[i]?) := fun i x h => by
    rw [back_get hl, Nat.zero_add] at h
    by_cases w : i ∈ vs
    · rw [if_pos (by simpa using w)] at h; exact .inl ⟨w, h⟩
    · rw [if_neg (by simpa using w)] at h
      exact .inr ⟨w, h, by rw [q i w, wipe_out w]⟩
  refine ⟨S2.g, by rw [back_len hl, S.len], fun i d h => ?_, fun i o h => ?_, fun i j o u h1 h2 w => ?_, S2.fix⟩
  · rcases z i _ h with ⟨_, h⟩ | ⟨_, h, p⟩
    · obtain ⟨v, x, y⟩ := S.val i d h
      exact ⟨v, x, y.mono e⟩
    · rw [p]; exact S2.val i d h
  · rcases z i _ h with ⟨w, h⟩ | ⟨_, h, p⟩
    · exact absurd h (n i o w)
    · rw [p]; exact S2.own i o h
  · rcases z i _ h1 with ⟨w, h⟩ | ⟨_, h1, _⟩
    · exact absurd h (n i o w)
    · rcases z j _ h2 with ⟨w, h⟩ | ⟨_, h2, _⟩
      · exact absurd h (n j u w)
      · exact S2.dist i j o u h1 h2 w
/-- what a turn in the block leaves, told of the slots outside -/
theorem Stp.block {oa : Nat → Addr} {vs : List Nat} {F H F' H' : Hp} (x : Stp oa (wipeE env vs) F H e2 F' H') (n : noOwn vs env) (hl : env.length = e2.length) : Stp oa env F H (back vs 0 env e2) F' H' where
  ff := x.ff
  kp := fun a u h q => x.kp a u h fun j o e => by
    rcases wipeE_get e with z | ⟨_, z⟩
    · cases z
    · exact q j o z
  gn := x.gn
  th := x.th
  sub := fun j o e => by
    rw [back_get hl, Nat.zero_add] at e
    by_cases w : j ∈ vs
    · rw [if_pos (by simpa using w)] at e; exact absurd e (n j o w)
    · rw [if_neg (by simpa using w)] at e
      obtain ⟨o', e'⟩ := x.sub j o e
      rcases wipeE_get e' with z | ⟨_, z⟩
      · cases z
      · exact ⟨o', z⟩
/-- a list comprehension: E the slots ahead of turn i, A what is made by then -/
theorem en_lc {wi : TI} {tt : TT} {vs js : List Nat} {ds : List D} (E : Nat → Env) (A : Nat → List D) (hi : EvI K wi env ds (E 0)) (h0 : A 0 = []) (hn : ∀ i, i < ds.length → noOwn vs (E i)) (hz : ds.length ≤ sizeLine) (hj : ∀ j ∈ js, j ∈ vs)
    (hs : ∀ (i : Nat) (d : D), ds[i]? = some d → ∃ e1 c e2, EvGs K g js d (wipeE (E i) vs) e1 ∧ (∀ (j : Nat) (o : OB), e1[j]? = some (.own o) → ∃ o', (wipeE (E i) vs)[j]? = some (.own o')) ∧ EvT K tt e1 c e2 ∧ (c = true → ∃ x e3, Ev K te e2 (.val x) e3 ∧ A (i + 1) = A i ++ [x] ∧ E (i + 1) = back vs 0 (E i) e3) ∧ (c = false → A (i + 1) = A i ∧ E (i + 1) = back vs 0 (E i) e2)) :
    EvN K (tLc wi g tt te vs) env (.lst (A ds.length)) (E ds.length) := by
  intro b F oa σ H S Q k
  refine hi b F oa σ H S _ fun J F1 H1 S1 g1 ⟨G, Y, w, hG, hY⟩ Dl hD => ?_
  have hA : ∀ i, i ≤ ds.length → (A i).length ≤ i := fun i => by
    induction i with
    | zero => intro _; rw [h0]; exact Nat.le_refl _
    | succ n ih =>
      intro hn
      have ih := ih (by omega)
      obtain ⟨e1, c, e2, _, _, _, h1, h2⟩ := hs n (ds[n]'(by omega)) (by simp [show n < ds.length by omega])
      cases c with
      | true => obtain ⟨x, e3, _, q, _⟩ := h1 rfl; rw [q, List.length_append, List.length_singleton]; omega
      | false => obtain ⟨q, _⟩ := h2 rfl; rw [q]; omega
  refine lc_it w (fun i H' => ∃ F', Sig K b F' oa σ H' (E i) ∧ Stp oa (E 0) F1 H1 (E i) F' H' ∧ NewAt K b F' oa H' (E i) Dl (.lst (A i))) ?_ (fun i H' _ ⟨F', S', e, _⟩ => hG H' (e.ff.trans S'.g.fh)) ?_ ?_
  · obtain ⟨S2, gn, n⟩ := en_new (o := .lst []) (u := .lst []) S1 hD ⟨_, upd_same, .nil⟩
    exact ⟨F1, S2, gn, by rw [h0]; exact n⟩
  · rintro i x H2 H3 hlt ⟨F2, S2, g2, n1, n2, n3, n4, n5⟩ y
    obtain ⟨e1, c, e2, h1, hown, h2, h3, h4⟩ := hs i (ds[i]) (by simp [hlt])
    -- the thing at hand
    have st : ∃ F3, Sig K b F3 oa σ H3 (E i) ∧ Stp oa (E i) F2 H2 (E i) F3 H3 ∧ Rep K F3 x ds[i] ∧ F3 Dl = none ∧ H3 Dl = H2 Dl := by
      rcases hY i ds[i] x _ H2 H3 (by simp [hlt]) (g2.ff.trans S2.g.fh) (Ex.refl _) y with ⟨q, rp⟩ | ⟨T, ws, l, q1, q2, q3, q4, q5⟩
      · subst q; exact ⟨F2, S2, Stp.refl, rp.mono g2.ff, n1, rfl⟩
      · subst q4
        rw [q1, q2]
        have nT : Dl ≠ T := by
          obtain ⟨vs', hv, _⟩ := n5
          intro z; rw [z, q3] at hv; cases hv
        exact ⟨upd F2 T (.tup ws), S2.new q3, Stp.new q3 (S2.g.fh.back q3), .tup (.inl (.inl upd_same)) ((q5.mono g2.ff).mono (Ex.new (S2.g.fh.back q3))), by rw [upd_ne nT]; exact n1, by rw [upd_ne nT]⟩
    obtain ⟨F3, S3, g3, rp, n6, n7⟩ := st
    refine h1 b F3 oa (L2.wipe σ vs) H3 x (S3.wiped vs) rp _ fun σ2 S4 l4 q4 => ?_
    have wq : L2.wipe σ2 vs = L2.wipe σ vs := by
      have len : ∀ (a : L2.St) (us : List Nat), (L2.wipe a us).length = a.length := fun a us => wipe_length a us
      have inn : ∀ (a : L2.St) (us : List Nat) (n : Nat), n ∈ us → n < a.length → (L2.wipe a us)[n]? = some none := fun a us => by
        induction us with
        | nil => intro n h _; simp at h
        | cons v us ih =>
          intro n h hl
          unfold L2.wipe
          by_cases z : v = n
          · subst z; rw [List.getElem?_set_self (by rw [len]; exact hl)]
          · rw [List.getElem?_set_ne z]
            exact ih n (by simp only [List.mem_cons] at h; rcases h with h | h; exact absurd h.symm z; exact h) hl
      apply List.ext_getElem?
      intro n
      by_cases z : n ∈ vs
      · by_cases hl : n < σ.length
        · rw [inn σ2 vs n z (by rw [l4, len]; exact hl), inn σ vs n z hl]
        · rw [List.getElem?_eq_none (by rw [len, l4, len]; omega), List.getElem?_eq_none (by rw [len]; omega)]
      · rw [wipe_out z, q4 n (fun y => z (hj n y)), wipe_out z]
    refine ⟨wq, ?_⟩
    have lσ : σ2.length = σ.length := by rw [l4, wipe_length]
    have qσ : ∀ m : Nat, m ∉ vs → σ2[m]? = (L2.wipe σ vs)[m]? := fun m hm => q4 m fun z => hm (hj m z)
    have ln : ∀ {F' : Hp} {H' : Hp} {e' : Env}, Sig K b F' oa σ2 H' e' → (E i).length = e'.length := fun S' => by rw [← S3.len, ← S'.len, lσ]
    have nown := hn i hlt
    have eown : ∀ (j : Nat) (o : OB), e1[j]? = some (.own o) → oa j ≠ Dl := fun j o e => by
      obtain ⟨o', e'⟩ := hown j o e
      rcases wipeE_get e' with z | ⟨_, z⟩
      · cases z
      · exact n3 j o' z
    have b0 : Stp oa (wipeE (E i) vs) F3 H3 e1 F3 H3 := ⟨Ex.refl _, fun _ _ h _ => h, fun _ h => .inl h, fun _ h => h, hown⟩
    refine h2 b F3 oa σ2 H3 S4 _ fun F4 H4 S5 g4 => ?_
    -- what the turn leaves
    have fin : ∀ {F' H' : Hp} {e' : Env}, Sig K b F' oa σ2 H' e' → Stp oa e1 F3 H3 e' F' H' → Sig K b F' oa σ H' (back vs 0 (E i) e') ∧ Stp oa (E 0) F1 H1 (back vs 0 (E i) e') F' H' ∧ NewAt K b F' oa H' (back vs 0 (E i) e') Dl (.lst (A i)) := fun {F' H' e'} S' g' => by
      have gb := (b0.trans g').block nown (ln S')
      have gt := (g2.trans g3).trans gb
      refine ⟨S3.unwipe S' g'.ff lσ qσ nown, gt, ?_, n2, fun j o e => ?_, n4, ?_⟩
      · cases z : F' Dl with
        | none => rfl
        | some v =>
          rcases g'.gn Dl (by rw [z]; simp) with q | q
          · exact absurd n6 q
          · obtain ⟨vs', hv, _⟩ := n5
            rw [n7, hv] at q; cases q
      · obtain ⟨o', e'⟩ := gb.sub j o e
        exact n3 j o' e'
      · refine n5.mono (g3.ff.trans g'.ff) fun u hu => ?_
        refine g'.kp Dl u (by rw [n7]; exact hu) eown
    cases c with
    | true =>
      obtain ⟨z, e3, h5, h6, h7⟩ := h3 rfl
      show te σ2 H4 fun y H5 => ∃ acc, H5 Dl = some (.lst acc) ∧ acc.length < sizeLine ∧ _
      refine h5 b F4 oa σ2 H4 S5 _ fun y' F5 H5 S6 g5 q6 => ?_
      obtain ⟨Sf, gf, m1, m2, m3, m4, ⟨acc, m5, m6⟩⟩ := fin S6 (g4.trans g5)
      have hl := hA i (by omega)
      refine ⟨acc, m5, by rw [m6.length]; omega, F5, ?_, ?_, ?_⟩
      · rw [h7]
        refine ⟨⟨Sf.g.gf, Sf.g.gh.right m2, Sf.g.fh.right m1, Sf.g.gn⟩, Sf.len, Sf.val, fun j o e => ?_, Sf.dist, fun j c e => ⟨(Sf.fix j c e).1, fun w => (Sf.fix j c e).2 ?_⟩⟩
        · obtain ⟨x1, x2, x3, x4⟩ := Sf.own j o e
          exact ⟨x1, x2, x3, x4.mono (Ex.refl _) fun u hu => by rw [upd_ne (m3 j o e)]; exact hu⟩
        · by_cases wz : c = Dl
          · subst wz; exact absurd e (m4 j)
          · rw [upd_ne wz] at w; exact w
      · rw [h7]
        refine ⟨gf.ff, fun a u h q => ?_, gf.gn, fun a h q => ?_, gf.sub⟩
        · have nz : a ≠ Dl := fun z => by rw [z, hD] at h; cases h
          rw [upd_ne nz]; exact gf.kp a u h q
        · by_cases wz : a = Dl
          · subst wz; rw [upd_same] at q; cases q
          · rw [upd_ne wz] at q; exact gf.th a h q
      · rw [h7, h6]
        exact ⟨m1, m2, m3, m4, acc ++ [y'], upd_same, m6.append (.cons q6 .nil)⟩
    | false =>
      obtain ⟨h6, h7⟩ := h4 rfl
      obtain ⟨Sf, gf, n⟩ := fin S5 g4
      show ∃ F', _
      exact ⟨F4, by rw [h7]; exact Sf, by rw [h7]; exact gf, by rw [h7, h6]; exact n⟩
  · rintro H' ⟨F', S', e, n⟩
    exact k Dl F' H' S' (g1.trans e) (g1.none hD) n
end
end DL

namespace DL
open PySem L2

/-- what a def hands back -/
inductive Ret where
  | val (d : D) | new (o : OB) | exc (C : Addr)
def RetR (K : PySem.W.Frag) (b : Bs) (F : Hp) (H : Hp) (v : V) : Ret → Prop
  | .val d => Rep K F v d
  | .new o => ∃ a, v = .ref a ∧ F a = none ∧ b.H a = none ∧ (∀ j, b.fx j ≠ some a) ∧ ORep K F H a o
  | .exc _ => False
structure Sat (K : PySem.W.Frag) (b : Bs) (F : Hp) (W : WX) (D : Ends) (N B C : Env → Prop) (R : Ret → Env → Prop) : Prop where
  nx : ∀ env F' oa σ H, N env → Sig K b F' oa σ H env → Ex F F' → D.nx σ H
  bk : ∀ env F' oa σ H, B env → Sig K b F' oa σ H env → Ex F F' → D.bk σ H
  ct : ∀ env F' oa σ H, C env → Sig K b F' oa σ H env → Ex F F' → D.ct σ H
  rt : ∀ r env F' oa σ H v, R r env → Sig K b F' oa σ H env → Ex F F' → RetR K b F' H v r → D.rt v H
  xc : ∀ X env F' oa σ H, R (.exc X) env → Sig K b F' oa σ H env → Ex F F' → W (.ref X) none σ H
theorem Sat.mono {K : PySem.W.Frag} {b : Bs} {F F1 : Hp} {W : WX} {D : Ends} {N B C : Env → Prop} {R : Ret → Env → Prop} (s : Sat K b F W D N B C R) (e : Ex F F1) : Sat K b F1 W D N B C R :=
  ⟨fun env F' oa σ H h S x => s.nx env F' oa σ H h S (e.trans x), fun env F' oa σ H h S x => s.bk env F' oa σ H h S (e.trans x), fun env F' oa σ H h S x => s.ct env F' oa σ H h S (e.trans x), fun r env F' oa σ H v h S x q => s.rt r env F' oa σ H v h S (e.trans x) q, fun X env F' oa σ H h S x => s.xc X env F' oa σ H h S (e.trans x)⟩
/-- a statement: from env it goes on (N), breaks (B), continues (C), or hands back (R); pr: the slots whose objects were handed in to be changed -/
def Exec (K : PySem.W.Frag) (pr : List Nat) (W : WX) (t : TS) (env : Env) (N B C : Env → Prop) (R : Ret → Env → Prop) : Prop := ∀ (b : Bs) (F : Hp) (oa : Nat → Addr) (σ : L2.St) (H : Hp) (D : Ends),
  (∀ i, b.fx i ≠ none → i ∈ pr) → Sig K b F oa σ H env → Sat K b F W D N B C R → t D σ H

section
variable {K : PySem.W.Frag} {pr : List Nat} {W : WX} {te ta tb tc : TE} {t u : TT} {s s1 s2 : TS} {env env' e1 e2 e3 : Env} {r r1 r2 : Res} {d d1 d2 : D} {o : OB} {i j : Nat} {c c1 c2 : Bool} {l m : List D} {g : TG} {N N' B B' C C' : Env → Prop} {R R' : Ret → Env → Prop}
theorem x_seq (h : Exec K pr W s1 env (fun e => Exec K pr W s2 e N B C R) B C R) : Exec K pr W (tSeq s1 s2) env N B C R := fun b F oa σ H D hp S st =>
  h b F oa σ H { D with nx := s2 D } hp S ⟨fun env F' oa σ H h S x => h b F' oa σ H D hp S (st.mono x), st.bk, st.ct, st.rt, st.xc⟩
theorem x_next (h : N env) : Exec K pr W tNext env N B C R := fun b F oa σ H D hp S st => st.nx env F oa σ H h S (Ex.refl F)
theorem x_brk (h : B env) : Exec K pr W tBreak env N B C R := fun b F oa σ H D hp S st => st.bk env F oa σ H h S (Ex.refl F)
theorem x_cont (h : C env) : Exec K pr W tCont env N B C R := fun b F oa σ H D hp S st => st.ct env F oa σ H h S (Ex.refl F)
/-- less is known from here on -/
theorem x_le (l : Env.le env env') (h : Exec K pr W s env' N B C R) : Exec K pr W s env N B C R := fun b F oa σ H D hp S st => h b F oa σ H D hp (S.le l) st
/-- the object of slot i stands from here on -/
theorem x_give (e : env[i]? = some (.own o)) (h : Exec K pr W s (env.set i (.val o.d)) N B C R) : Exec K pr W s env N B C R := fun b F oa σ H D hp S st => by
  obtain ⟨F', S', x⟩ := S.give e
  exact h b F' oa σ H D hp S' (st.mono x)
theorem x_mono (h : Exec K pr W s env N B C R) (hn : ∀ e, N e → N' e) (hb : ∀ e, B e → B' e) (hc : ∀ e, C e → C' e) (hr : ∀ r e, R r e → R' r e) : Exec K pr W s env N' B' C' R' := fun b F oa σ H D hp S st =>
  h b F oa σ H D hp S ⟨fun env F oa σ H h S => st.nx env F oa σ H (hn _ h) S, fun env F oa σ H h S => st.bk env F oa σ H (hb _ h) S, fun env F oa σ H h S => st.ct env F oa σ H (hc _ h) S, fun r env F oa σ H v h S x q => st.rt r env F oa σ H v (hr _ _ h) S x q, fun X env F oa σ H h S x => st.xc X env F oa σ H (hr _ _ h) S x⟩
theorem x_asg {js : List Nat} (h : Ev K te env (.val d) e1) (hg : EvGs K g js d e1 e2) (k : N e2) : Exec K pr W (tAsg te g) env N B C R := fun b F oa σ H D hp S st =>
  h b F oa σ H S _ fun v F1 H1 S1 g1 q1 => hg b F1 oa σ H1 v S1 q1 _ fun σ' S2 _ _ => st.nx e2 F1 oa σ' H1 k S2 g1.ff
theorem x_set (h : Ev K te env (.val d) e1) (k : N (e1.set i (.val d))) : Exec K pr W (tAsg te (gName i)) env N B C R := x_asg h eg_name k
theorem x_setN (h : EvN K te env o e1) (hi : i ∉ pr) (k : N (e1.set i (.own o))) : Exec K pr W (tAsg te (gName i)) env N B C R := fun b F oa σ H D hp S st =>
  h b F oa σ H S _ fun a F1 H1 S1 g1 na ⟨n1, n2, n3, n4, n5⟩ => by
    have fi : b.fx i = none := by
      cases z : b.fx i with
      | none => rfl
      | some x => exact absurd (hp i (by rw [z]; simp)) hi
    exact st.nx _ F1 (oset oa i a) _ H1 k (S1.setOwn fi n1 n2 (fun j u _ e => n3 j u e) n5) g1.ff
theorem x_if (h : EvT K t env c e1) (h1 : c = true → Exec K pr W s1 e1 N B C R) (h2 : c = false → Exec K pr W s2 e1 N B C R) : Exec K pr W (tIfS t s1 s2) env N B C R := fun b F oa σ H D hp S st =>
  h b F oa σ H S _ fun F1 H1 S1 g1 => by
    cases c with
    | true => exact h1 rfl b F1 oa σ H1 D hp S1 (st.mono g1.ff)
    | false => exact h2 rfl b F1 oa σ H1 D hp S1 (st.mono g1.ff)
theorem x_drop (h : Ev K te env r e1) (k : N e1) : Exec K pr W (tDrop te) env N B C R := fun b F oa σ H D hp S st => h b F oa σ H S _ fun v F1 H1 S1 g1 q1 => st.nx _ F1 oa σ H1 k S1 g1.ff
theorem x_ret (h : Ev K te env (.val d) e1) (k : R (.val d) e1) : Exec K pr W (tRet te) env N B C R := fun b F oa σ H D hp S st => h b F oa σ H S _ fun v F1 H1 S1 g1 q1 => st.rt _ _ F1 oa σ H1 v k S1 g1.ff q1
theorem x_retN (h : EvN K te env o e1) (k : R (.new o) e1) : Exec K pr W (tRet te) env N B C R := fun b F oa σ H D hp S st => h b F oa σ H S _ fun a F1 H1 S1 g1 na ⟨n1, n2, n3, n4, n5⟩ => st.rt _ _ F1 oa σ H1 _ k S1 g1.ff ⟨a, rfl, n1, n2, n4, n5⟩
/-- return x, x a slot that owns -/
theorem x_retO (e : env[i]? = some (.own o)) (hi : i ∉ pr) (k : R (.new o) env) (hd : ∀ j ∈ pr, j ≠ i → ∃ u, env[j]? = some (.own u)) : Exec K pr W (tRet (tVar i)) env N B C R := fun b F oa σ H D hp S st => by
  obtain ⟨h1, h2, h3, h4⟩ := S.own i o e
  refine ⟨_, h1, st.rt _ _ F oa σ H _ k S (Ex.refl F) ⟨oa i, rfl, h2, h3, fun j q => ?_, h4⟩⟩
  have q' := (S.fix j _ q).1
  have jp := hp j (by rw [q]; simp)
  by_cases z : j = i
  · exact hi (z ▸ jp)
  · obtain ⟨u, hu⟩ := hd j jp z
    exact z (S.dist j i u o hu e q')
theorem x_retNn (k : R (.val .non) env) : Exec K pr W tRetN env N B C R := fun b F oa σ H D hp S st => st.rt _ _ F oa σ H _ k S (Ex.refl F) .non
/-- a for -/
theorem x_for {wi : TI} {js : List Nat} {ds : List D} (I : Nat → Env → Prop) (hi : EvI K wi env ds e1) (h0 : I 0 e1)
    (hs : ∀ (i : Nat) (d : D) (env' : Env), ds[i]? = some d → I i env' → ∃ e2, EvGs K g js d env' e2 ∧ Exec K pr W s e2 (I (i + 1)) N (I (i + 1)) R) (hd : ∀ env', I ds.length env' → N env') : Exec K pr W (tFor wi g s) env N B C R := fun b F oa σ H D hp S st =>
  hi b F oa σ H S _ fun J F1 H1 S1 g1 ⟨G, Y, w, hG, hY⟩ => by
    refine for_it w (fun i σ' H' => ∃ env' F' oa', I i env' ∧ Sig K b F' oa' σ' H' env' ∧ Ex F1 F') ⟨e1, F1, oa, h0, S1, Ex.refl _⟩ (fun i σ' H' _ ⟨_, F', _, _, S', e⟩ => hG H' (e.trans S'.g.fh)) ?_ ?_
    · rintro i x σ2 H2 H3 hlt ⟨env', F2, oa2, hI, S2, g2⟩ y
      have st3 : ∃ F3, Sig K b F3 oa2 σ2 H3 env' ∧ Ex F2 F3 ∧ Rep K F3 x ds[i] := by
        rcases hY i ds[i] x _ H2 H3 (by simp [hlt]) (g2.trans S2.g.fh) (Ex.refl _) y with ⟨q, rp⟩ | ⟨T, ws, l, q1, q2, q3, q4, q5⟩
        · subst q; exact ⟨F2, S2, Ex.refl _, rp.mono g2⟩
        · subst q4
          rw [q1, q2]
          exact ⟨upd F2 T (.tup ws), S2.new q3, Ex.new (S2.g.fh.back q3), .tup (.inl (.inl upd_same)) ((q5.mono g2).mono (Ex.new (S2.g.fh.back q3)))⟩
      obtain ⟨F3, S3, g3, rp⟩ := st3
      obtain ⟨e2, hg, hx⟩ := hs i ds[i] env' (by simp [hlt]) hI
      refine hg b F3 oa2 σ2 H3 x S3 rp _ fun σ3 S4 _ _ => ?_
      have g4 : Ex F1 F3 := g2.trans g3
      exact hx b F3 oa2 σ3 H3 _ hp S4 ⟨fun env F oa σ H h S x => ⟨env, F, oa, h, S, g4.trans x⟩, fun env F oa σ H h S x => st.nx env F oa σ H h S ((g1.ff.trans g4).trans x), fun env F oa σ H h S x => ⟨env, F, oa, h, S, g4.trans x⟩, fun r env F oa σ H v h S x q => st.rt r env F oa σ H v h S ((g1.ff.trans g4).trans x) q, fun X env F oa σ H h S x => st.xc X env F oa σ H h S ((g1.ff.trans g4).trans x)⟩
    · rintro σ' H' ⟨env', F', oa', hI, S', x⟩
      exact st.nx env' F' oa' σ' H' (hd env' hI) S' (g1.ff.trans x)
/-- a while: the word I by a number that falls -/
theorem x_while (I : Nat → Env → Prop) (n : Nat) (h0 : I n env)
    (hs : ∀ (n : Nat) (env' : Env), I n env' → ∃ c e1, EvT K t env' c e1 ∧ (c = true → Exec K pr W s e1 (fun e => ∃ m, m < n ∧ I m e) N (fun e => ∃ m, m < n ∧ I m e) R) ∧ (c = false → N e1)) : Exec K pr W (tWhile t s) env N B C R := fun b F oa σ H D hp S st => by
  refine ⟨fun n σ' H' => ∃ env' F' oa', I n env' ∧ Sig K b F' oa' σ' H' env' ∧ Ex F F', ⟨n, env, F, oa, h0, S, Ex.refl F⟩, ?_⟩
  rintro n σ' H' ⟨env', F', oa', hI, S', x⟩
  obtain ⟨c, e1, h1, h2, h3⟩ := hs n env' hI
  refine h1 b F' oa' σ' H' S' _ fun F1 H1 S1 g1 => ?_
  cases c with
  | true =>
    show ∃ N : L2.St → Hp → Prop, _
    refine ⟨fun σ2 H2 => ∃ env' F' oa', (∃ m, m < n ∧ I m env') ∧ Sig K b F' oa' σ2 H2 env' ∧ Ex F F', fun σ2 H2 ⟨e2, F2, oa2, ⟨m, hm, hI⟩, S2, x2⟩ => ⟨m, hm, e2, F2, oa2, hI, S2, x2⟩, ?_⟩
    have x1 := x.trans g1.ff
    exact h2 rfl b F1 oa' σ' H1 _ hp S1 ⟨fun env F oa σ H h S y => ⟨env, F, oa, h, S, x1.trans y⟩, fun env F oa σ H h S y => st.nx env F oa σ H h S (x1.trans y), fun env F oa σ H h S y => ⟨env, F, oa, h, S, x1.trans y⟩, fun r env F oa σ H v h S y q => st.rt r env F oa σ H v h S (x1.trans y) q, fun X env F oa σ H h S y => st.xc X env F oa σ H h S (x1.trans y)⟩
  | false => exact st.nx e1 F1 oa' σ' H1 (h3 rfl) S1 (x.trans g1.ff)
/-- x op= e, on ints -/
theorem x_aug {f : Int → Int → Int} {n m : Int} (hx : env[i]? = some (.val (.int n))) (h : Ev K te env (.val (.int m)) e1) (k : N (e1.set i (.val (.int (f n m))))) : Exec K pr W (tAug i te (ipI f)) env N B C R := fun b F oa σ H D hp S st => by
  obtain ⟨v, h1, h2⟩ := S.val i _ hx
  cases h2
  exact ⟨_, h1, h b F oa σ H S _ fun w F1 H1 S1 g1 q1 => by cases q1; exact ⟨n, m, rfl, rfl, st.nx _ F1 oa _ H1 k (S1.set (.int _)) g1.ff⟩⟩
/-- xs.append(e), xs a slot's -/
theorem x_app (he : env[i]? = some (.own (.lst l))) (h : Ev K te env (.val d) e1) (he1 : e1[i]? = some (.own (.lst m))) (hz : m.length < sizeLine) (k : N (e1.set i (.own (.lst (m ++ [d]))))) :
    Exec K pr W (tDrop (tBM K "list" rAppend (tVar i) (tCons te tNil))) env N B C R := fun b F oa σ H D hp S st => by
  obtain ⟨h1, h2, h3, vs, h4, h5⟩ := S.own i _ he
  refine ⟨_, h1, .inl ⟨rfl, vs, .inl (.inl h4)⟩, h b F oa σ H S _ fun v F1 H1 S1 g1 q1 => ?_⟩
  obtain ⟨x1, x2, x3, ws, x4, x5⟩ := S1.own i _ he1
  refine ⟨oa i, ws, v, rfl, rfl, x4, by rw [x5.length]; exact hz, ?_⟩
  exact st.nx _ F1 oa σ _ k (S1.mut (o' := .lst (m ++ [d])) he1 rfl ⟨_, upd_same, x5.append (.cons q1 .nil)⟩) g1.ff
/-- xs[i] = e, xs a slot's -/
theorem x_setl {k0 : Int} {n : Nat} (h : Ev K te env (.val d) e1) (hi : Ev K tb e1 (.val (.int k0)) e2) (he1 : e1[i]? = some (.own o)) (he2 : e2[i]? = some (.own (.lst m))) (hn : ixN m.length k0 = some n) (k : N (e2.set i (.own (.lst (m.set n d))))) :
    Exec K pr W (tAsg te (gSub (tVar i) tb rSetL)) env N B C R := fun b F oa σ H D hp S st =>
  h b F oa σ H S _ fun v F1 H1 S1 g1 q1 => by
    obtain ⟨y1, _⟩ := S1.own i _ he1
    refine ⟨_, y1, hi b F1 oa σ H1 S1 _ fun w F2 H2 S2 g2 q2 => ?_⟩
    cases q2
    obtain ⟨x1, x2, x3, ws, x4, x5⟩ := S2.own i _ he2
    refine ⟨oa i, ws, k0, n, rfl, rfl, x4, by rw [x5.length]; exact hn, ?_⟩
    have q1' : Rep K F2 v d := Rep.mono g2.ff q1
    exact st.nx _ F2 oa σ _ k (S2.mut (o' := .lst (m.set n d)) he2 rfl ⟨_, upd_same, RepL.set q1' n x5⟩) (g1.ff.trans g2.ff)
end

/-! ### promises -/
/-- an argument: data, or an object handed in to be changed -/
inductive AV where
  | val (d : D) | own (o : OB)
structure ArgsR (K : PySem.W.Frag) (F H : Hp) (vs : List V) (as : List AV) : Prop where
  len : vs.length = as.length
  val : ∀ (i : Nat) (d : D), as[i]? = some (.val d) → ∃ v, vs[i]? = some v ∧ Rep K F v d
  own : ∀ (i : Nat) (o : OB), as[i]? = some (.own o) → ∃ a, vs[i]? = some (.ref a) ∧ F a = none ∧ ORep K F H a o
  dist : ∀ (i j : Nat) (o u : OB) (a : Addr), as[i]? = some (.own o) → as[j]? = some (.own u) → vs[i]? = some (.ref a) → vs[j]? = some (.ref a) → i = j
/-- an address of an object that was handed in to be changed -/
def ownA (vs : List V) (as : List AV) (a : Addr) : Prop := ∃ (i : Nat) (o : OB), as[i]? = some (.own o) ∧ vs[i]? = some (.ref a)
structure CallEnd (K : PySem.W.Frag) (F H F' H' : Hp) (vs : List V) (as as' : List AV) (v : V) (r : Ret) : Prop where
  ff : Ex F F'
  fh : Ex F' H'
  kp : ∀ a u, H a = some u → ¬ ownA vs as a → H' a = some u
  gn : ∀ a, F' a ≠ none → F a ≠ none ∨ H a = none
  th : ∀ a, H a ≠ none → H' a ≠ none
  own : ∀ (i : Nat) (o : OB), as[i]? = some (.own o) → ∃ o' a, as'[i]? = some (.own o') ∧ vs[i]? = some (.ref a) ∧ F' a = none ∧ ORep K F' H' a o'
  ret : match r with
    | .val d => Rep K F' v d
    | .new o => ∃ a, v = .ref a ∧ F' a = none ∧ H a = none ∧ ORep K F' H' a o
    | .exc _ => True
/-- what is wanted of what came -/
def outR (r : Ret) (E : XK) (Q : VK) (v : V) (H : Hp) : Prop := match r with
  | .exc C => E (.ref C) none H
  | _ => Q v H
/-- THE PROMISE: from arguments as it hands back r and leaves them as' -/
def SpG (K : PySem.W.Frag) (P : List AV → Ret → List AV → Prop) : Sp := fun vs H Q E => ∃ F as r as', Ex F H ∧ ArgsR K F H vs as ∧ P as r as' ∧ ∀ v F' H', CallEnd K F H F' H' vs as as' v r → outR r E Q v H'
def AV.ev : AV → EV
  | .val d => .val d
  | .own o => .own o
open Classical in
noncomputable def hideA (vs : List V) (as : List AV) (H : Hp) : Hp := fun a => if ownA vs as a then none else H a
theorem hideA_ex {vs : List V} {as : List AV} {H : Hp} : Ex (hideA vs as H) H := fun a o e => by
  unfold hideA at e
  split at e
  · cases e
  · exact e
/-- what was handed in is in its slots yet -/
def Held (as as' : List AV) (e : Env) : Prop := ∀ (i : Nat) (o : OB), as[i]? = some (AV.own o) → ∃ o', as'[i]? = some (AV.own o') ∧ e[i]? = some (EV.own o')
/-- a def's body keeps its promise -/
theorem run_SpG {K : PySem.W.Frag} {P : List AV → Ret → List AV → Prop} {Nm : List Str} {n : Nat} {t : TS} {vs : List V} {H : Hp} {Q : VK} {E : XK} (h : SpG K P vs H Q E) (hn : ∀ as r as', P as r as' → as.length = n ∧ n ≤ Nm.length)
    (body : ∀ as r as', P as r as' → ∃ pr : List Nat, (∀ (i : Nat) (o : OB), as[i]? = some (AV.own o) → i ∈ pr) ∧ Exec K pr (fun cls d _ H => E cls d H) t (as.map AV.ev ++ List.replicate (Nm.length - n) .any)
      (fun e => r = .val .non ∧ Held as as' e) (fun _ => False) (fun _ => False) (fun q e => q = r ∧ Held as as' e)) :
    t { nx := fun _ H' => Q .non H', rt := Q } (L2.start Nm vs) H := by
  obtain ⟨F, as, r, as', e, ar, p, k⟩ := h
  obtain ⟨hl, hnm⟩ := hn as r as' p
  obtain ⟨pr, hpr, hx⟩ := body as r as' p
  have lvs : vs.length = n := by rw [ar.len, hl]
  have stg : ∀ (i : Nat) (v : V), vs[i]? = some v → (L2.start Nm vs)[i]? = some (some v) := fun i v h => by
    unfold L2.start
    have hi : i < vs.length := (List.getElem?_eq_some_iff.mp h).1
    rw [List.getElem?_append_left (by simpa using hi), List.getElem?_map, h]; rfl
  have evg : ∀ (i : Nat) (x : EV), (as.map AV.ev ++ List.replicate (Nm.length - n) .any)[i]? = some x → x = .any ∨ ∃ a, as[i]? = some a ∧ x = a.ev := fun i x h => by
    by_cases hi : i < as.length
    · rw [List.getElem?_append_left (by simpa using hi), List.getElem?_map] at h
      cases z : as[i]? with
      | none => rw [z] at h; cases h
      | some a => rw [z] at h; cases h; exact .inr ⟨a, rfl, rfl⟩
    · rw [List.getElem?_append_right (by simpa using Nat.le_of_not_lt hi)] at h
      have := List.getElem?_eq_some_iff.mp h
      obtain ⟨h1, h2⟩ := this
      rw [List.getElem_replicate] at h2
      exact .inl h2.symm
  have evo : ∀ (i : Nat) (o : OB), (as.map AV.ev ++ List.replicate (Nm.length - n) .any)[i]? = some (.own o) → as[i]? = some (.own o) := fun i o h => by
    rcases evg i _ h with z | ⟨a, h1, h2⟩
    · cases z
    · cases a with
      | val d => cases h2
      | own u => cases h2; exact h1
  -- the addresses
  let oa : Nat → Addr := fun i => match vs[i]? with
    | some (.ref a) => a
    | _ => 0
  have oav : ∀ (i : Nat) (a : Addr), vs[i]? = some (.ref a) → oa i = a := fun i a h => by show (match vs[i]? with | some (.ref a) => a | _ => 0) = a; rw [h]
  let fx : Nat → Option Addr := fun i => match as[i]? with
    | some (.own _) => some (oa i)
    | _ => none
  have fxs : ∀ i a, fx i = some a → ∃ o, as[i]? = some (.own o) ∧ a = oa i := fun i a h => by
    have h' : (match as[i]? with | some (.own _) => some (oa i) | _ => none) = some a := h
    cases z : as[i]? with
    | none => rw [z] at h'; cases h'
    | some x =>
      rw [z] at h'
      cases x with
      | val d => cases h'
      | own o => cases h'; exact ⟨o, rfl, rfl⟩
  have hidN : ∀ (i : Nat) (o : OB) (a : Addr), as[i]? = some (.own o) → vs[i]? = some (.ref a) → hideA vs as H a = none := fun i o a h1 h2 => by
    unfold hideA
    rw [if_pos ⟨i, o, h1, h2⟩]
  have S : Sig K ⟨F, hideA vs as H, fx⟩ F oa (L2.start Nm vs) H (as.map AV.ev ++ List.replicate (Nm.length - n) .any) := by
    refine ⟨⟨Ex.refl _, hideA_ex, e, fun a h => .inl h⟩, ?_, fun i d h => ?_, fun i o h => ?_, fun i j o u h1 h2 q => ?_, fun i a h => ?_⟩
    · unfold L2.start; simp [lvs, hl]
    · rcases evg i _ h with z | ⟨a, h1, h2⟩
      · cases z
      · cases a with
        | own o => cases h2
        | val d' =>
          cases h2
          obtain ⟨v, q1, q2⟩ := ar.val i d h1
          exact ⟨v, stg i v q1, q2⟩
    · have h1 := evo i o h
      obtain ⟨a, q1, q2, q3⟩ := ar.own i o h1
      rw [oav i a q1]
      exact ⟨stg i _ q1, q2, hidN i o a h1 q1, q3⟩
    · have h1 := evo i o h1
      have h2 := evo j u h2
      obtain ⟨a, q1, _⟩ := ar.own i o h1
      obtain ⟨a', q1', _⟩ := ar.own j u h2
      rw [oav i a q1, oav j a' q1'] at q
      subst q
      exact ar.dist i j o u a h1 h2 q1 q1'
    · obtain ⟨o, h1, rfl⟩ := fxs i a h
      obtain ⟨a, q1, _, q3⟩ := ar.own i o h1
      obtain ⟨w, hw⟩ := q3.ho
      exact ⟨rfl, by rw [oav i a q1, hw]; simp⟩
  have fin : ∀ env F' oa' σ' H' v, Sig K ⟨F, hideA vs as H, fx⟩ F' oa' σ' H' env → Held as as' env → (RetR K ⟨F, hideA vs as H, fx⟩ F' H' v r ∨ ∃ C, r = .exc C) → outR r E Q v H' := fun env F' oa' σ' H' v S' ho hr => by
    have fxo : ∀ (i : Nat) (o : OB) (a : Addr), as[i]? = some (.own o) → vs[i]? = some (.ref a) → oa' i = a ∧ H' a ≠ none := fun i o a h1 h2 => by
      have q : fx i = some a := by
        show (match as[i]? with | some (.own _) => some (oa i) | _ => none) = some a
        rw [h1, oav i a h2]
      exact S'.fix i a q
    have hkp : ∀ a u, H a = some u → ¬ ownA vs as a → H' a = some u := fun a u h n => S'.g.gh a u (by
      show hideA vs as H a = some u
      unfold hideA
      rw [if_neg n]; exact h)
    refine k v F' H' ⟨S'.g.gf, S'.g.fh, hkp, fun a h => ?_, fun a h => ?_, fun i o h => ?_, ?_⟩
    · rcases S'.g.gn a h with q | q
      · exact .inl q
      · by_cases z : ownA vs as a
        · obtain ⟨i, o, h1, h2⟩ := z
          obtain ⟨o', h3, h4⟩ := ho i o h1
          obtain ⟨_, x2, _⟩ := S'.own i o' h4
          rw [(fxo i o a h1 h2).1] at x2
          exact absurd x2 h
        · refine .inr ?_
          have q' : hideA vs as H a = none := q
          unfold hideA at q'
          rw [if_neg z] at q'
          exact q'
    · by_cases z : ownA vs as a
      · obtain ⟨i, o, h1, h2⟩ := z
        exact (fxo i o a h1 h2).2
      · cases w : H a with
        | none => exact absurd w h
        | some u => rw [hkp a u w z]; simp
    · obtain ⟨o', h3, h4⟩ := ho i o h
      obtain ⟨a, q1, _⟩ := ar.own i o h
      obtain ⟨_, x2, _, x4⟩ := S'.own i o' h4
      rw [(fxo i o a h q1).1] at x2 x4
      exact ⟨o', a, h3, q1, x2, x4⟩
    · cases r with
      | exc C => trivial
      | val d =>
        rcases hr with hr | ⟨_, hr⟩
        · exact hr
        · cases hr
      | new o =>
        rcases hr with hr | ⟨_, hr⟩
        rotate_left
        · cases hr
        obtain ⟨a, rfl, h1, h2, h3, h4⟩ := hr
        refine ⟨a, rfl, h1, ?_, h4⟩
        have h2' : hideA vs as H a = none := h2
        unfold hideA at h2'
        split at h2'
        · rename_i z
          obtain ⟨i, o', h5, h6⟩ := z
          refine absurd ?_ (h3 i)
          show (match as[i]? with | some (.own _) => some (oa i) | _ => none) = some a
          rw [h5, oav i a h6]
        · exact h2'
  refine hx ⟨F, hideA vs as H, fx⟩ F oa (L2.start Nm vs) H _ (fun i h => ?_) S ⟨fun env F' oa σ H h S x => ?_, fun _ _ _ _ _ h => h.elim, fun _ _ _ _ _ h => h.elim, fun q env F' oa σ H v h S x hr => ?_, fun X env F' oa σ H h S x => ?_⟩
  · cases z : fx i with
    | none => exact absurd z h
    | some a =>
      obtain ⟨o, h1, _⟩ := fxs i a z
      exact hpr i o h1
  · obtain ⟨h1, h2⟩ := h
    subst h1
    exact fin env F' oa σ H .non S h2 (.inl .non)
  · obtain ⟨h1, h2⟩ := h
    subst h1
    have := fin env F' oa σ H v S h2 (.inl hr)
    cases q with
    | exc C => exact hr.elim
    | val d => exact this
    | new o => exact this
  · obtain ⟨h1, h2⟩ := h
    subst h1
    exact fin env F' oa σ H .non S h2 (.inr ⟨_, rfl⟩)
/-- raise C('..') -/
def tRaise (W : WX) (C : Addr) : TS := fun _ σ H => W (.ref C) none σ H
section
variable {K : PySem.W.Frag} {pr : List Nat} {W : WX} {env e1 : Env} {N B C : Env → Prop} {R : Ret → Env → Prop} {X : Addr}
theorem x_raise (h : R (.exc X) env) : Exec K pr W (tRaise W X) env N B C R := fun b F oa σ H D hp S st => st.xc X env F oa σ H h S (Ex.refl F)
end
end DL

namespace DL
open PySem L2

/-! ### calls -/
section
variable {K : PySem.W.Frag} {env e1 : Env} {P : List AV → Ret → List AV → Prop} {rs : List Res} {as as' : List AV} {d : D} {o : OB} {ta : TA} {E : XK}
/-- what is handed in -/
def argOf (env : Env) : List Res → Option (List AV)
  | [] => some []
  | .val d :: r => (argOf env r).map (.val d :: ·)
  | .slot i :: r => match env[i]? with
    | some (.own o) => (argOf env r).map (.own o :: ·)
    | _ => none
def slots : List Res → List Nat
  | [] => []
  | .val _ :: r => slots r
  | .slot i :: r => i :: slots r
/-- the slots behind the call -/
def putA : List Res → List AV → Env → Env
  | .slot i :: r, .own o :: as, env => putA r as (env.set i (.own o))
  | _ :: r, _ :: as, env => putA r as env
  | _, _, env => env
theorem argOf_get : ∀ {rs : List Res} {as : List AV} {i : Nat} {x : AV}, argOf env rs = some as → as[i]? = some x → (∃ d, rs[i]? = some (Res.val d) ∧ x = AV.val d) ∨ ∃ (j : Nat) (o : OB), rs[i]? = some (Res.slot j) ∧ x = AV.own o ∧ env[j]? = some (EV.own o)
  | [], _, _, _, h, e => by cases h; simp at e
  | .val d :: r, as, i, x, h, e => by
    unfold argOf at h
    cases z : argOf env r with
    | none => rw [z] at h; cases h
    | some t =>
      rw [z] at h; cases h
      cases i with
      | zero => simp at e; subst e; exact .inl ⟨d, rfl, rfl⟩
      | succ i => exact argOf_get (i := i) z (by simpa using e)
  | .slot j :: r, as, i, x, h, e => by
    unfold argOf at h
    split at h
    · rename_i o ho
      cases z : argOf env r with
      | none => rw [z] at h; cases h
      | some t =>
        rw [z] at h; cases h
        cases i with
        | zero => simp at e; subst e; exact .inr ⟨j, o, rfl, rfl, ho⟩
        | succ i => exact argOf_get (i := i) z (by simpa using e)
    · cases h
theorem argOf_len : ∀ {rs : List Res} {as : List AV}, argOf env rs = some as → as.length = rs.length
  | [], _, h => by cases h; rfl
  | .val d :: r, as, h => by
    unfold argOf at h
    cases z : argOf env r with
    | none => rw [z] at h; cases h
    | some t => rw [z] at h; cases h; rw [List.length_cons, List.length_cons, argOf_len z]
  | .slot j :: r, as, h => by
    unfold argOf at h
    split at h
    · cases z : argOf env r with
      | none => rw [z] at h; cases h
      | some t => rw [z] at h; cases h; rw [List.length_cons, List.length_cons, argOf_len z]
    · cases h
theorem rrs_get {F : Hp} {oa : Nat → Addr} : ∀ {vs : List V} {rs : List Res} {i : Nat} {x : Res}, RRs K F oa vs rs → rs[i]? = some x → ∃ v, vs[i]? = some v ∧ RR K F oa v x
  | [], [], _, _, _, e => by simp at e
  | _ :: _, _ :: _, 0, _, h, e => by simp at e; subst e; exact ⟨_, rfl, h.1⟩
  | _ :: _, _ :: _, i + 1, _, h, e => by
    obtain ⟨v, h1, h2⟩ := rrs_get (i := i) h.2 (by simpa using e)
    exact ⟨v, by simpa using h1, h2⟩
  | [], _ :: _, _, _, h, _ => h.elim
  | _ :: _, [], _, _, h, _ => h.elim
theorem rrs_len {F : Hp} {oa : Nat → Addr} : ∀ {vs : List V} {rs : List Res}, RRs K F oa vs rs → vs.length = rs.length
  | [], [], _ => rfl
  | _ :: _, _ :: _, h => by rw [List.length_cons, List.length_cons, rrs_len h.2]
  | [], _ :: _, h => h.elim
  | _ :: _, [], h => h.elim
theorem slots_get : ∀ {rs : List Res} {i j : Nat}, rs[i]? = some (.slot j) → j ∈ slots rs
  | [], _, _, e => by simp at e
  | .val d :: r, 0, _, e => by simp at e
  | .val d :: r, i + 1, _, e => slots_get (rs := r) (i := i) (by simpa using e)
  | .slot k :: r, 0, _, e => by simp at e; subst e; exact List.mem_cons_self
  | .slot k :: r, i + 1, _, e => List.mem_cons_of_mem _ (slots_get (rs := r) (i := i) (by simpa using e))
theorem slots_inj : ∀ {rs : List Res} {i i' j : Nat}, (slots rs).Nodup → rs[i]? = some (.slot j) → rs[i']? = some (.slot j) → i = i'
  | [], _, _, _, _, e, _ => by simp at e
  | .val d :: r, 0, _, _, _, e, _ => by simp at e
  | .val d :: r, _ + 1, 0, _, _, _, e => by simp at e
  | .val d :: r, i + 1, i' + 1, _, n, e, f => by rw [slots_inj (rs := r) (i := i) (i' := i') n (by simpa using e) (by simpa using f)]
  | .slot k :: r, 0, 0, _, _, _, _ => rfl
  | .slot k :: r, 0, i' + 1, _, n, e, f => by
    simp at e; subst e
    exact absurd (slots_get (rs := r) (i := i') (by simpa using f)) (List.nodup_cons.mp n).1
  | .slot k :: r, i + 1, 0, _, n, e, f => by
    simp at f; subst f
    exact absurd (slots_get (rs := r) (i := i) (by simpa using e)) (List.nodup_cons.mp n).1
  | .slot k :: r, i + 1, i' + 1, _, n, e, f => by rw [slots_inj (rs := r) (i := i) (i' := i') (List.nodup_cons.mp n).2 (by simpa using e) (by simpa using f)]
theorem putA_get : ∀ {rs : List Res} {as : List AV} {env : Env} {j : Nat} {x : EV}, (putA rs as env)[j]? = some x → env[j]? = some x ∨ ∃ (i : Nat) (o : OB), rs[i]? = some (Res.slot j) ∧ as[i]? = some (AV.own o) ∧ x = EV.own o
  | [], _, _, _, _, h => by unfold putA at h; exact .inl h
  | .val d :: r, [], _, _, _, h => by unfold putA at h; exact .inl h
  | .slot d :: r, [], _, _, _, h => by unfold putA at h; exact .inl h
  | .val d :: r, a :: as, env, j, x, h => by
    unfold putA at h
    rcases putA_get h with z | ⟨i, o, h1, h2, h3⟩
    · exact .inl z
    · exact .inr ⟨i + 1, o, by simpa using h1, by simpa using h2, h3⟩
  | .slot k :: r, .val a :: as, env, j, x, h => by
    unfold putA at h
    rcases putA_get h with z | ⟨i, o, h1, h2, h3⟩
    · exact .inl z
    · exact .inr ⟨i + 1, o, by simpa using h1, by simpa using h2, h3⟩
  | .slot k :: r, .own a :: as, env, j, x, h => by
    unfold putA at h
    rcases putA_get h with z | ⟨i, o, h1, h2, h3⟩
    · by_cases q : k = j
      · subst q
        rw [List.getElem?_set] at z
        split at z
        · split at z
          · cases z; exact .inr ⟨0, a, rfl, rfl, rfl⟩
          · cases z
        · rename_i w; exact absurd rfl w
      · rw [List.getElem?_set_ne q] at z
        exact .inl z
    · exact .inr ⟨i + 1, o, by simpa using h1, by simpa using h2, h3⟩
/-- a slot that is not handed in is as it was; one that is, isn't as it was -/
theorem putA_out : ∀ {rs : List Res} {as : List AV} {env : Env} {j : Nat}, j ∉ slots rs → (putA rs as env)[j]? = env[j]?
  | [], _, _, _, _ => by unfold putA; rfl
  | .val d :: r, [], _, _, _ => by unfold putA; rfl
  | .slot d :: r, [], _, _, _ => by unfold putA; rfl
  | .val d :: r, a :: as, env, j, h => by unfold putA; exact putA_out (rs := r) h
  | .slot k :: r, .val a :: as, env, j, h => by
    unfold putA
    exact putA_out (rs := r) fun z => h (List.mem_cons_of_mem _ z)
  | .slot k :: r, .own a :: as, env, j, h => by
    unfold putA
    rw [putA_out (rs := r) fun z => h (List.mem_cons_of_mem _ z), List.getElem?_set_ne fun z => h (by rw [z]; exact List.mem_cons_self)]
theorem putA_len : ∀ {rs : List Res} {as : List AV} {env : Env}, (putA rs as env).length = env.length
  | [], _, _ => by unfold putA; rfl
  | .val d :: r, [], _ => by unfold putA; rfl
  | .slot d :: r, [], _ => by unfold putA; rfl
  | .val d :: r, a :: as, env => by unfold putA; exact putA_len
  | .slot k :: r, .val a :: as, env => by unfold putA; exact putA_len
  | .slot k :: r, .own a :: as, env => by unfold putA; rw [putA_len, List.length_set]
theorem call_core {b : Bs} {F H : Hp} {oa : Nat → Addr} {σ : L2.St} {vs : List V} {r : Ret} (S : Sig K b F oa σ H e1) (q : RRs K F oa vs rs) (ha : argOf e1 rs = some as) (hs : (slots rs).Nodup) (hl : as'.length = as.length) :
    ArgsR K F H vs as ∧ ∀ v F' H', CallEnd K F H F' H' vs as as' v r → Sig K b F' oa σ H' (putA rs as' e1) ∧ Stp oa e1 F H (putA rs as' e1) F' H' := by
  have own : ∀ (i : Nat) (o : OB), as[i]? = some (.own o) → ∃ j : Nat, rs[i]? = some (Res.slot j) ∧ e1[j]? = some (EV.own o) ∧ vs[i]? = some (V.ref (oa j)) := fun i o h => by
    rcases argOf_get ha h with ⟨d, _, z⟩ | ⟨j, o', h1, h2, h3⟩
    · cases z
    · cases h2
      obtain ⟨v, h4, h5⟩ := rrs_get q h1
      exact ⟨j, h1, h3, by rw [h4, (show v = .ref (oa j) from h5)]⟩
  refine ⟨⟨by rw [rrs_len q, argOf_len ha], fun i d h => ?_, fun i o h => ?_, fun i i' o u a h1 h2 h3 h4 => ?_⟩, fun v F' H' ce => ?_⟩
  · rcases argOf_get ha h with ⟨d', h1, z⟩ | ⟨j, o', _, h2, _⟩
    · cases z
      obtain ⟨v, h4, h5⟩ := rrs_get q h1
      exact ⟨v, h4, h5⟩
    · cases h2
  · obtain ⟨j, h1, h2, h3⟩ := own i o h
    obtain ⟨_, x2, _, x4⟩ := S.own j o h2
    exact ⟨oa j, h3, x2, x4⟩
  · obtain ⟨j, x1, x2, x3⟩ := own i o h1
    obtain ⟨j', y1, y2, y3⟩ := own i' u h2
    rw [x3] at h3; cases h3
    rw [y3] at h4
    have z : oa j' = oa j := by injection (Option.some.inj h4)
    have w := S.dist j' j u o y2 x2 z
    subst w
    exact slots_inj hs x1 y1
  · -- an own argument's address is that of its slot
    have oad : ∀ (j : Nat) (o : OB), e1[j]? = some (.own o) → j ∉ slots rs → ¬ ownA vs as (oa j) := fun j o h n ⟨i, u, h1, h2⟩ => by
      obtain ⟨j', x1, x2, x3⟩ := own i u h1
      rw [x3] at h2
      have z : oa j' = oa j := by injection (Option.some.inj h2)
      have w := S.dist j' j u o x2 h z
      subst w
      exact n (slots_get x1)
    have fresh : ∀ (j : Nat) (o : OB), e1[j]? = some (.own o) → j ∉ slots rs → F' (oa j) = none := fun j o h n => by
      obtain ⟨_, x2, _, x4⟩ := S.own j o h
      cases z : F' (oa j) with
      | none => rfl
      | some w =>
        rcases ce.gn (oa j) (by rw [z]; simp) with y | y
        · exact absurd x2 y
        · obtain ⟨u, hu⟩ := x4.ho
          rw [y] at hu; cases hu
    -- what a slot owns behind the call
    have now : ∀ (j : Nat) (o : OB), (putA rs as' e1)[j]? = some (.own o) → (j ∉ slots rs ∧ e1[j]? = some (.own o)) ∨ ∃ (i : Nat) (u : OB), rs[i]? = some (Res.slot j) ∧ as[i]? = some (AV.own u) ∧ as'[i]? = some (AV.own o) ∧ e1[j]? = some (EV.own u) := fun j o h => by
      by_cases z : j ∈ slots rs
      · obtain ⟨i, hi⟩ : ∃ i : Nat, rs[i]? = some (.slot j) := by
          clear h own oad fresh ha hs q
          induction rs with
          | nil => cases z
          | cons x r ih =>
            cases x with
            | val d => obtain ⟨i, hi⟩ := ih z; exact ⟨i + 1, by simpa using hi⟩
            | slot k =>
              rcases List.mem_cons.mp z with w | w
              · exact ⟨0, by simp [w]⟩
              · obtain ⟨i, hi⟩ := ih w; exact ⟨i + 1, by simpa using hi⟩
        have hai : ∃ u, as[i]? = some (AV.own u) ∧ e1[j]? = some (EV.own u) := by
          have li : i < as.length := by rw [argOf_len ha]; exact (List.getElem?_eq_some_iff.mp hi).1
          have g : as[i]? = some as[i] := by simp [li]
          rcases argOf_get ha g with ⟨d, h1, _⟩ | ⟨j', o', h1, h2, h3⟩
          · rw [hi] at h1; cases h1
          · rw [hi] at h1; cases h1
            exact ⟨o', by rw [g, h2], h3⟩
        obtain ⟨u, hu, hj⟩ := hai
        obtain ⟨o', a, c1, _⟩ := ce.own i u hu
        rcases putA_get h with w | ⟨i', o2, h1, h2, h3⟩
        · -- the slot was put
          refine .inr ⟨i, u, hi, hu, ?_, hj⟩
          have : ∀ {rs : List Res} {as' : List AV} {env : Env} {i : Nat}, rs[i]? = some (.slot j) → as'[i]? = some (.own o') → (slots rs).Nodup → j < env.length → (putA rs as' env)[j]? = some (.own o') := by
            intro rs
            induction rs with
            | nil => intro as' env i h1; simp at h1
            | cons x r ih =>
              intro as' env i h1 h2 hn hlt
              match as', h2 with
              | a :: t, h2 =>
                cases x with
                | val d =>
                  unfold putA
                  cases i with
                  | zero => simp at h1
                  | succ i => exact ih (i := i) (by simpa using h1) (by simpa using h2) hn hlt
                | slot k =>
                  cases i with
                  | zero =>
                    simp at h1 h2
                    subst h1 h2
                    unfold putA
                    rw [putA_out (List.nodup_cons.mp hn).1, List.getElem?_set_self hlt]
                  | succ i =>
                    cases a with
                    | val d => unfold putA; exact ih (i := i) (by simpa using h1) (by simpa using h2) (List.nodup_cons.mp hn).2 hlt
                    | own u => unfold putA; exact ih (i := i) (by simpa using h1) (by simpa using h2) (List.nodup_cons.mp hn).2 (by rw [List.length_set]; exact hlt)
              | [], h2 => simp at h2
          have t := this (rs := rs) (as' := as') (env := e1) hi c1 hs (List.getElem?_eq_some_iff.mp hj).1
          rw [h] at t
          cases t
          exact c1
        · cases h3
          have w := slots_inj hs hi h1
          subst w
          exact .inr ⟨i, u, hi, hu, h2, hj⟩
      · rw [putA_out z] at h
        exact .inl ⟨z, h⟩
    refine ⟨⟨⟨S.g.gf.trans ce.ff, fun a u h => ?_, ce.fh, fun a h => ?_⟩, by rw [putA_len]; exact S.len, fun j d h => ?_, fun j o h => ?_, fun j k o u h1 h2 z => ?_, fun j a h => ⟨(S.fix j a h).1, ce.th a (S.fix j a h).2⟩⟩, ⟨ce.ff, fun a u h n => ce.kp a u h ?_, ce.gn, ce.th, fun j o h => ?_⟩⟩
    · refine ce.kp a u (S.g.gh a u h) fun ⟨i, w, h1, h2⟩ => ?_
      obtain ⟨j, x1, x2, x3⟩ := own i w h1
      obtain ⟨_, _, y, _⟩ := S.own j w x2
      rw [x3] at h2
      have z : oa j = a := by injection (Option.some.inj h2)
      rw [z, h] at y; cases y
    · rcases ce.gn a h with y | y
      · exact S.g.gn a y
      · exact .inr (S.g.gh.back y)
    · have h' : e1[j]? = some (.val d) := by
        rcases putA_get h with w | ⟨i', o2, h1, h2, h3⟩
        · exact w
        · cases h3
      obtain ⟨v, x, y⟩ := S.val j d h'
      exact ⟨v, x, y.mono ce.ff⟩
    · rcases now j o h with ⟨h1, h2⟩ | ⟨i, u, h1, h2, h3, h4⟩
      · obtain ⟨x1, x2, x3, x4⟩ := S.own j o h2
        exact ⟨x1, fresh j o h2 h1, x3, x4.mono ce.ff fun u hu => ce.kp _ u hu (oad j o h2 h1)⟩
      · obtain ⟨x1, x2, x3, x4⟩ := S.own j u h4
        obtain ⟨o', a, c1, c2, c3, c4⟩ := ce.own i u h2
        rw [h3] at c1; cases c1
        obtain ⟨j', y1, y2, y3⟩ := own i u h2
        rw [h1] at y1; cases y1
        rw [y3] at c2
        have z : oa j = a := by injection (Option.some.inj c2)
        subst z
        exact ⟨x1, c3, x3, c4⟩
    · have t : ∀ (j : Nat) (o : OB), (putA rs as' e1)[j]? = some (.own o) → ∃ u, e1[j]? = some (.own u) := fun j o h => by
        rcases now j o h with ⟨_, h2⟩ | ⟨_, u, _, _, _, h4⟩
        · exact ⟨o, h2⟩
        · exact ⟨u, h4⟩
      obtain ⟨_, h1⟩ := t j o h1
      obtain ⟨_, h2⟩ := t k u h2
      exact S.dist j k _ _ h1 h2 z
    · rintro ⟨i, w, h1, h2⟩
      obtain ⟨j, x1, x2, x3⟩ := own i w h1
      rw [x3] at h2
      have z : oa j = a := by injection (Option.some.inj h2)
      exact n j w x2 z
    · rcases now j o h with ⟨_, h2⟩ | ⟨_, u, _, _, _, h4⟩
      · exact ⟨o, h2⟩
      · exact ⟨u, h4⟩
theorem ev_call (h : EvA K ta env rs e1) (ha : argOf e1 rs = some as) (hs : (slots rs).Nodup) (hp : P as (.val d) as') (hl : as'.length = as.length) : Ev K (tCall (SpG K P) [] E ta) env (.val d) (putA rs as' e1) := fun b F oa σ H S Q k =>
  h b F oa σ H S _ fun vs F1 H1 S1 g1 q1 => by
    obtain ⟨c1, c2⟩ := call_core (r := .val d) S1 q1 ha hs hl
    refine ⟨F1, as, .val d, as', S1.g.fh, by rw [List.append_nil]; exact c1, hp, fun v F' H' ce => ?_⟩
    rw [List.append_nil] at ce
    obtain ⟨c3, c4⟩ := c2 v F' H' ce
    exact k v F' H' c3 (g1.trans c4) ce.ret
theorem en_call (h : EvA K ta env rs e1) (ha : argOf e1 rs = some as) (hs : (slots rs).Nodup) (hp : P as (.new o) as') (hl : as'.length = as.length) : EvN K (tCall (SpG K P) [] E ta) env o (putA rs as' e1) := fun b F oa σ H S Q k =>
  h b F oa σ H S _ fun vs F1 H1 S1 g1 q1 => by
    obtain ⟨c1, c2⟩ := call_core (r := .new o) S1 q1 ha hs hl
    refine ⟨F1, as, .new o, as', S1.g.fh, by rw [List.append_nil]; exact c1, hp, fun v F' H' ce => ?_⟩
    rw [List.append_nil] at ce
    obtain ⟨c3, c4⟩ := c2 v F' H' ce
    obtain ⟨a, rfl, n1, n2, n3⟩ := ce.ret
    refine k a F' H' c3 (g1.trans c4) (g1.none n2) ⟨n1, S1.g.gh.back n2, fun j u e => ?_, fun j e => (S1.fix j a e).2 n2, n3⟩
    obtain ⟨o', e'⟩ := c4.sub j u e
    exact S1.ne n2 e'
/-! ### expressions that raise -/
/-- it raises C, and leaves the slots as env' -/
def EvX (K : PySem.W.Frag) (W : WX) (te : TE) (env : Env) (C : Addr) (env' : Env) : Prop := ∀ (b : Bs) (F : Hp) (oa : Nat → Addr) (σ : L2.St) (H : Hp), Sig K b F oa σ H env → (∀ F' H', Sig K b F' oa σ H' env' → Ex F F' → W (.ref C) none σ H') → ∀ Q : VK, te σ H Q
def EvAX (K : PySem.W.Frag) (W : WX) (ta : TA) (env : Env) (C : Addr) (env' : Env) : Prop := ∀ (b : Bs) (F : Hp) (oa : Nat → Addr) (σ : L2.St) (H : Hp), Sig K b F oa σ H env → (∀ F' H', Sig K b F' oa σ H' env' → Ex F F' → W (.ref C) none σ H') → ∀ Q : List V → Hp → Prop, ta σ H Q
def EvTX (K : PySem.W.Frag) (W : WX) (t : TT) (env : Env) (C : Addr) (env' : Env) : Prop := ∀ (b : Bs) (F : Hp) (oa : Nat → Addr) (σ : L2.St) (H : Hp), Sig K b F oa σ H env → (∀ F' H', Sig K b F' oa σ H' env' → Ex F F' → W (.ref C) none σ H') → ∀ Q : Bool → Hp → Prop, t σ H Q
variable {W : WX} {X : Addr} {te tb tl : TE} {t u : TT} {rr : R2} {e2 : Env} {r : Res} {cc : Bool} {pr : List Nat} {N B C : Env → Prop} {R : Ret → Env → Prop} {g : TG}
theorem ev_callS (h : EvA K ta env rs e1) (ha : argOf e1 rs = some as) (hs : (slots rs).Nodup) (hp : P as (.val d) as') (hl : as'.length = as.length) : Ev K (tCallS (SpG K P) (WE W) ta) env (.val d) (putA rs as' e1) := fun b F oa σ H S Q k =>
  h b F oa σ H S _ fun vs F1 H1 S1 g1 q1 => by
    obtain ⟨c1, c2⟩ := call_core (r := .val d) S1 q1 ha hs hl
    refine ⟨F1, as, .val d, as', S1.g.fh, c1, hp, fun v F' H' ce => ?_⟩
    obtain ⟨c3, c4⟩ := c2 v F' H' ce
    exact k v F' H' c3 (g1.trans c4) ce.ret
theorem en_callS (h : EvA K ta env rs e1) (ha : argOf e1 rs = some as) (hs : (slots rs).Nodup) (hp : P as (.new o) as') (hl : as'.length = as.length) : EvN K (tCallS (SpG K P) (WE W) ta) env o (putA rs as' e1) := fun b F oa σ H S Q k =>
  h b F oa σ H S _ fun vs F1 H1 S1 g1 q1 => by
    obtain ⟨c1, c2⟩ := call_core (r := .new o) S1 q1 ha hs hl
    refine ⟨F1, as, .new o, as', S1.g.fh, c1, hp, fun v F' H' ce => ?_⟩
    obtain ⟨c3, c4⟩ := c2 v F' H' ce
    obtain ⟨a, rfl, n1, n2, n3⟩ := ce.ret
    refine k a F' H' c3 (g1.trans c4) (g1.none n2) ⟨n1, S1.g.gh.back n2, fun j u e => ?_, fun j e => (S1.fix j a e).2 n2, n3⟩
    obtain ⟨o', e'⟩ := c4.sub j u e
    exact S1.ne n2 e'
theorem ex_callS (h : EvA K ta env rs e1) (ha : argOf e1 rs = some as) (hs : (slots rs).Nodup) (hp : P as (.exc X) as') (hl : as'.length = as.length) : EvX K W (tCallS (SpG K P) (WE W) ta) env X (putA rs as' e1) := fun b F oa σ H S w Q =>
  h b F oa σ H S _ fun vs F1 H1 S1 g1 q1 => by
    obtain ⟨c1, c2⟩ := call_core (r := .exc X) S1 q1 ha hs hl
    refine ⟨F1, as, .exc X, as', S1.g.fh, c1, hp, fun v F' H' ce => ?_⟩
    obtain ⟨c3, c4⟩ := c2 v F' H' ce
    exact w F' H' c3 (g1.ff.trans c4.ff)
theorem ex_args (h : EvAX K W ta env X e1) : EvX K W (tCallS (SpG K P) (WE W) ta) env X e1 := fun b F oa σ H S w Q => h b F oa σ H S w _
theorem ex_args0 {sp : Sp} (h : EvAX K W ta env X e1) : EvX K W (tCall sp [] E ta) env X e1 := fun b F oa σ H S w Q => h b F oa σ H S w _
theorem ex_cb {rc : List V → Hp → VK → Prop} (h : EvAX K W ta env X e1) : EvX K W (tCB rc ta) env X e1 := fun b F oa σ H S w Q => h b F oa σ H S w _
theorem eax_head (h : EvX K W te env X e1) : EvAX K W (tCons te ta) env X e1 := fun b F oa σ H S w Q => h b F oa σ H S w _
theorem eax_tail (h : Ev K te env r e1) (h2 : EvAX K W ta e1 X e2) : EvAX K W (tCons te ta) env X e2 := fun b F oa σ H S w Q => h b F oa σ H S _ fun v F1 H1 S1 g1 _ => h2 b F1 oa σ H1 S1 (fun F' H' S' x => w F' H' S' (g1.ff.trans x)) _
theorem ex_op1 (h : EvX K W te env X e1) : EvX K W (tOp rr te tb) env X e1 := fun b F oa σ H S w Q => h b F oa σ H S w _
theorem ex_op2 (h : Ev K te env r e1) (h2 : EvX K W tb e1 X e2) : EvX K W (tOp rr te tb) env X e2 := fun b F oa σ H S w Q => h b F oa σ H S _ fun v F1 H1 S1 g1 _ => h2 b F1 oa σ H1 S1 (fun F' H' S' x => w F' H' S' (g1.ff.trans x)) _
theorem ex_tup (h : EvAX K W ta env X e1) : EvX K W (tTup ta) env X e1 := fun b F oa σ H S w Q => h b F oa σ H S w _
theorem ex_lst (h : EvAX K W ta env X e1) : EvX K W (tLst ta) env X e1 := fun b F oa σ H S w Q => h b F oa σ H S w _
theorem etx_test (h : EvX K W te env X e1) : EvTX K W (tTest te) env X e1 := fun b F oa σ H S w Q => h b F oa σ H S w _
theorem etx_b (h : EvX K W te env X e1) : EvTX K W (tB te) env X e1 := fun b F oa σ H S w Q => h b F oa σ H S w _
theorem etx_not (h : EvTX K W t env X e1) : EvTX K W (tNot t) env X e1 := fun b F oa σ H S w Q => h b F oa σ H S w _
/-- a statement whose expression raises -/
theorem x_asgX (h : EvX K W te env X e1) (k : R (.exc X) e1) : Exec K pr W (tAsg te g) env N B C R := fun b F oa σ H D hp S st => h b F oa σ H S (fun F' H' S' x => st.xc X e1 F' oa σ H' k S' x) _
theorem x_dropX (h : EvX K W te env X e1) (k : R (.exc X) e1) : Exec K pr W (tDrop te) env N B C R := fun b F oa σ H D hp S st => h b F oa σ H S (fun F' H' S' x => st.xc X e1 F' oa σ H' k S' x) _
theorem x_retX (h : EvX K W te env X e1) (k : R (.exc X) e1) : Exec K pr W (tRet te) env N B C R := fun b F oa σ H D hp S st => h b F oa σ H S (fun F' H' S' x => st.xc X e1 F' oa σ H' k S' x) _
theorem x_ifX {s1 s2 : TS} (h : EvTX K W t env X e1) (k : R (.exc X) e1) : Exec K pr W (tIfS t s1 s2) env N B C R := fun b F oa σ H D hp S st => h b F oa σ H S (fun F' H' S' x => st.xc X e1 F' oa σ H' k S' x) _
end
end DL

/-! ### an exception that is caught, and kept by a name behind its clause -/
namespace L2
open PySem PySem.Spec PyProof.Rows DL
section
variable {X : Cx} {pins : List (Addr × Obj)} {σ : L2.St} {H : Hp} {s : Shared}
/-- an exception that lies there untracked is tracked from now on -/
theorem Inv.heldExc (I : Inv X pins σ H s) {C a : Addr} {oe : Obj} {vs : Array Value} (ha : s.heap.get? a = some oe) (hz : Zc (.ref C) none oe) (hd : oe.data = .fields vs) (na : H a = none) (nL : a ≠ X.env.locals)
    (n0 : X.s_0.heap.get? a = none) (np : ∀ p ∈ X.pn ++ pins, p.1 ≠ a) : Inv X pins σ (upd H a (ExK C a)) s := by
  have other : ∀ {b : Addr} {o : HO}, H b = some o → upd H a (ExK C a) b = some o := fun {b o} hb => by
    rw [upd_ne (fun z => by rw [z, na] at hb; cases hb)]; exact hb
  have cellNe : ∀ x c, X.env.cells.lookup x = some c → c ≠ a := fun x c hx z => by
    obtain ⟨v, o, ho, hv⟩ := I.cell x c hx
    rw [z, ha] at ho
    cases ho
    rw [hd] at hv; cases hv
  refine { ok := I.ok, os := I.os, bare := I.bare, base := ?_, loc := I.loc, cell := I.cell, free := ?_, freeC := fun x c hx => ?_, pin := fun p hp => ?_, hok := fun b o hb => ?_, len := I.len }
  · refine { keep := I.base.keep, slot := I.base.slot, free := fun b o hb h0 hx => ?_, there := I.base.there, tups := fun b xs hb => other (I.base.tups b xs hb), frzs := fun b o u hb => other (I.base.frzs b o u hb), tbls := fun b ps hb => ?_ }
    · rw [upd_ne (fun z => by rw [z, n0] at hb; cases hb)]
      exact I.base.free b o hb h0 hx
    · obtain ⟨more, q⟩ := I.base.tbls b ps hb
      exact ⟨more, other q⟩
  · rw [upd_ne (Ne.symm nL)]; exact I.free
  · rw [upd_ne (cellNe x c hx)]; exact I.freeC x c hx
  · obtain ⟨h1, h2, h3⟩ := I.pin p hp
    exact ⟨h1, by rw [upd_ne (np p hp)]; exact h2, h3⟩
  · by_cases z : b = a
    · subst z
      rw [upd_same] at hb
      cases hb
      exact ⟨⟨oe, vs, ha, hz, hd⟩, ⟨oe, ha⟩, fun _ _ ⟨o', vs', q1, q2⟩ k => ⟨o', vs', k o' q1, q2⟩⟩
    · rw [upd_ne z] at hb
      exact (I.hok b o hb).stay (fun _ _ _ q => q) (fun _ q => other q) (fun _ _ q => other q)
/-- what 'except x as n: m = n' wishes: slot j is m's, i is n's -/
def wKeep (K : PySem.W.Frag) (c : Value) (i j : Nat) (D : Ends) : WX := fun cls d σ H =>
  ∃ C, cls = .ref C ∧ d = none ∧ PySem.W.exmOne K cls c = some true ∧ ∀ a, H a = none → D.nx (((σ.set i (some (.ref a))).set j (some (.ref a))).set i none) (upd H a (ExK C a))
end
section
variable {X : Cx} {x n : Str} {c : Value} {i j : Nat} {body suite : List Stmt} {b₀ : Stmt} {np pos pos' : Pos} {tb : WX → TS}
theorem ps_try_keep (hs : X.stack = X.env :: X.outer) (hf : X.env.frame = some X.env.locals) (hex : X.ex = []) (hN : X.N.Nodup) (hi : X.N[i]? = some n) (hln : X.env.kindOf n = some .local) (hc : Names X x c)
    (hb : ∀ (W : WX) (pn : List (Addr × Obj)) (xe : Value → Shared → Prop), Takes (X.tr pn xe) W → PassesOwn (model X.prog X.w) X.A X.env xe → PSs (X.tr pn xe) body (tb W))
    (hsu : ∀ (a : Addr) (oe : Obj) (pn : List (Addr × Obj)), PSs (X.suite a ((a, oe) :: pn)) (b₀ :: suite) (tAsg (tVar i) (gName j))) (hij : i < X.N.length) :
    PS X (.Try body [.ExceptHandler (some (.Name x np)) (some n) (b₀ :: suite) pos'] [] [] pos) (fun D σ H => tb (wKeep X.K c i j D) D σ H) := by
  constructor
  intro pins s σ H D I h
  have okX := I.ok
  have fr : X.A.frames = some (X.env :: X.outer) := okX.frames.trans (congrArg some hs)
  apply wpAny_Try_except
  refine wpAny_mono ((hb (wKeep X.K c i j D) (X.pn ++ pins) _ (fun u s' air => ?_) PassesOwn.looking).run [] s σ H D (I.toTry _) h) (fun f s1 r => ?_) (fun _ _ z => z)
  · obtain ⟨a, B, sI, ps, σ', H', cls, d, eu, J', nb, up, sky, na, os, ag, C, ecls, ed, match1, go⟩ := air
    subst eu ecls ed
    have J : Inv X pins σ' H' sI := J'.ofTry okX
    rw [hs] at sky
    change wpAny (model X.prog X.w) X.A (noteFrame (.ref a) X.env) _ _ _
    refine Sky.land Zc.steady fr hf sky fun h3 air3 up3 => ?_
    have B0 : B.get? a = none := air3.2.1
    obtain ⟨oe3, vs3, at3, z3, d3⟩ := air3.there
    have J3 : Inv X pins σ' H' { s' with heap := h3 } := J.landed nb air3.1 (up.trans up3) os ag
    -- it is no frame
    have noFr : a ∉ frs (X.env :: X.outer) := fun hm => by
      obtain ⟨_, o, eo, no⟩ := air3.2.2.1.mem hm
      rw [at3] at eo
      cases eo
      exact no _ d3
    have nL : a ≠ X.env.locals := fun z => noFr (List.mem_filterMap.mpr ⟨X.env, List.mem_cons_self, by rw [hf, z]⟩)
    have nF : a ∉ X.fs := fun hm => by
      obtain ⟨e, h1, h2⟩ := List.mem_filterMap.mp hm
      exact noFr (List.mem_filterMap.mpr ⟨e, List.mem_cons_of_mem _ h1, h2⟩)
    -- it is new
    have nI : sI.heap.get? a = none := by
      cases q : sI.heap.get? a with
      | none => rfl
      | some o =>
        have := nb a o q (by show a ∉ frs X.stack; rw [hs]; exact noFr)
        rw [B0] at this; cases this
    have n0 : X.s_0.heap.get? a = none := by
      cases q : X.s_0.heap.get? a with
      | none => rfl
      | some o =>
        obtain ⟨o', q'⟩ := J.base.there a o q (by rw [hex]; exact List.not_mem_nil)
        rw [nI] at q'; cases q'
    have npin : ∀ p ∈ X.pn ++ pins, p.1 ≠ a := fun p hp z => by
      have := (J.pin p hp).1
      rw [z, nI] at this; cases this
    refine wpAny_handleBy_cons (codeAny_handlers_test ?_) (by intro q; cases q)
    have cl : PySem.W.Looks (model X.prog X.w) h3 (typeOf (.ref a)) (.ref C) := fun _ _ _ s2 k q => wpAny_typeOf_ref (k _ _ at3) (by rw [z3.1]; exact q)
    have look := PySem.W.exm_one (M := model X.prog X.w) J3.kIn cl match1
    have S3 := J3.suite at3 d3 na nL nF
    have named : ∀ (Q E : Value → Shared → Prop), Q c { s' with heap := h3 } → wpAny (model X.prog X.w) (X.A.mark (some (.ref a))) (eval (.Name x np) X.env) Q E { s' with heap := h3 } := by
      intro Q E q
      rcases hc with ⟨hg, hdb, hm | ⟨hm, hv, hnn⟩⟩
      · exact ld_glob (X := X.suite a ((a, oe3) :: (X.pn ++ pins))) S3 hg hm q hdb
      · exact ld_blt (X := X.suite a ((a, oe3) :: (X.pn ++ pins))) S3 hg hm hv q hnn hdb
    refine named _ _ (look.here ?_)
    apply codeAny_handlers_suite_as
    refine HandSPX.lands_againZ air3 fun h4 air4 up4 => ?_
    obtain ⟨oe, vs, at4, z4, d4⟩ := air4.there
    have J4 : Inv X pins σ' H' { s' with heap := h4 } := J.landed nb air4.1 ((up.trans up3).trans up4) os ag
    have S4 := J4.suite at4 d4 na nL nF
    have loc : Loc X.env.scope n := .inl hln
    refine store_ok (X := X.suite a ((a, oe) :: (X.pn ++ pins))) (v := .ref a) S4 hN hi loc rfl (fun s5 S5 => ?_) (.inr hln)
    have lσ : i < σ'.length := by rw [J.len]; exact hij
    -- what the suite leaves: the two names hold it
    let Dk : Ends := { nx := fun σ6 H6 => σ6 = (σ'.set i (some (.ref a))).set j (some (.ref a)) ∧ H6 = H', rt := fun _ _ => False }
    have suite1 : tAsg (tVar i) (gName j) Dk (σ'.set i (some (.ref a))) H' := ⟨.ref a, List.getElem?_set_self lσ, rfl, rfl⟩
    refine wpAny_mono ((hsu a oe (X.pn ++ pins)).run [] s5 _ H' Dk S5 suite1) (fun f s6 r => ?_) (fun _ _ z => z.elim)
    cases f with
    | next =>
      obtain ⟨σ6, H6, S6, eσ, eH⟩ := r
      subst eσ eH
      obtain ⟨at6, _, _, _, _⟩ := S6.pin (a, oe) (List.mem_append_left _ List.mem_cons_self)
      have J6 := Inv.heldExc (S6.unsuite okX) at6 z4 d4 na nL n0 npin
      exact gone_ok J6 hN hi hln fun s7 J7 => ⟨_, _, J7, go a na⟩
    | brk => obtain ⟨_, _, _, q⟩ := r; exact q.elim
    | cont => obtain ⟨_, _, _, q⟩ := r; exact q.elim
    | ret u => obtain ⟨_, _, _, _, _, q⟩ := r; exact q.elim
  · cases f with
    | next =>
      obtain ⟨σ1, H1, J1, q1⟩ := r
      exact wpAny_execs_nil ⟨σ1, H1, J1.ofTry okX, q1⟩
    | brk =>
      obtain ⟨σ1, H1, J1, q1⟩ := r
      exact ⟨σ1, H1, J1.ofTry okX, q1⟩
    | cont =>
      obtain ⟨σ1, H1, J1, q1⟩ := r
      exact ⟨σ1, H1, J1.ofTry okX, q1⟩
    | ret u =>
      obtain ⟨v, σ1, H1, J1, rv, q1⟩ := r
      exact ⟨v, σ1, H1, J1.ofTry okX, rv, q1⟩
end
end L2

namespace DL
open PySem L2
section
variable {K : PySem.W.Frag} {b : Bs} {F H : Hp} {oa : Nat → Addr} {σ : L2.St} {env : Env} {i j : Nat}
theorem Sig.unset (S : Sig K b F oa σ H env) : Sig K b F oa (σ.set i none) H (env.set i .any) where
  g := S.g
  len := by simp [S.len]
  val := fun n d e => by
    by_cases q : i = n
    · subst q
      rw [List.getElem?_set] at e
      split at e
      · split at e <;> cases e
      · rename_i z; exact absurd rfl z
    · rw [List.getElem?_set_ne q] at e
      rw [List.getElem?_set_ne q]
      exact S.val n d e
  own := fun n d e => by
    by_cases q : i = n
    · subst q
      rw [List.getElem?_set] at e
      split at e
      · split at e <;> cases e
      · rename_i z; exact absurd rfl z
    · rw [List.getElem?_set_ne q] at e
      rw [List.getElem?_set_ne q]
      exact S.own n d e
  dist := fun n m o u e f z => by
    have t : ∀ (n : Nat) (o : OB), (env.set i .any)[n]? = some (EV.own o) → env[n]? = some (EV.own o) := fun n o e => by
      by_cases q : i = n
      · subst q
        rw [List.getElem?_set] at e
        split at e
        · split at e <;> cases e
        · rename_i z; exact absurd rfl z
      · rw [List.getElem?_set_ne q] at e; exact e
    exact S.dist n m o u (t _ _ e) (t _ _ f) z
  fix := S.fix
end
/-- try: body / except c as n: m = n -/
def tTry (K : PySem.W.Frag) (c : Value) (i j : Nat) (tb : WX → TS) : TS := fun D σ H => tb (wKeep K c i j D) D σ H
theorem ps_tryK {X : Cx} {x n : Str} {c : Value} {i j : Nat} {body suite : List Stmt} {b₀ : Stmt} {np pos pos' : Pos} {tb : WX → TS} (hs : X.stack = X.env :: X.outer) (hf : X.env.frame = some X.env.locals) (hex : X.ex = []) (hN : X.N.Nodup) (hi : X.N[i]? = some n)
    (hln : X.env.kindOf n = some .local) (hc : Names X x c)
    (hb : ∀ (W : WX) (pn : List (Addr × Obj)) (xe : Value → Shared → Prop), Takes (X.tr pn xe) W → PassesOwn (model X.prog X.w) X.A X.env xe → PSs (X.tr pn xe) body (tb W))
    (hsu : ∀ (a : Addr) (oe : Obj) (pn : List (Addr × Obj)), PSs (X.suite a ((a, oe) :: pn)) (b₀ :: suite) (tAsg (tVar i) (gName j))) (hij : i < X.N.length) :
    PS X (.Try body [.ExceptHandler (some (.Name x np)) (some n) (b₀ :: suite) pos'] [] [] pos) (tTry X.K c i j tb) := ps_try_keep hs hf hex hN hi hln hc hb hsu hij
/-- an error of the class at C is what «except S» names -/
theorem exm_mk {K : PySem.W.Frag} {C S : Addr} (h1 : PySem.W.subIn K (.ref S) (.type "BaseException") = some true) (h2 : PySem.W.isClsIn K S = true) (h3 : PySem.W.typeIn K (.ref S) = some (.type "type")) (h4 : PySem.W.subIn K (.ref C) (.ref S) = some true) : PySem.W.exmOne K (.ref C) (.ref S) = some true := by
  have h2' : (PySem.W.clsIn K S).isSome = true := h2
  show (if (PySem.W.subIn K (.ref S) (.type "BaseException") == some true) = true then (if ((PySem.W.clsIn K S).isSome && PySem.W.typeIn K (.ref S) == some (.type "type")) = true then PySem.W.subIn K (.ref C) (.ref S) else none) else none) = some true
  rw [h1, h2', h3]
  simp only [beq_self_eq_true, Bool.and_self, if_true]
  exact h4
section
variable {K : PySem.W.Frag} {pr : List Nat} {W : WX} {env : Env} {i j : Nat} {N B C : Env → Prop} {R : Ret → Env → Prop} {c : Value} {tb : WX → TS}
/-- what is caught goes on with slot j holding it -/
def caught (K : PySem.W.Frag) (c : Value) (i j : Nat) (N : Env → Prop) (R : Ret → Env → Prop) : Ret → Env → Prop := fun q e => match q with
  | .exc X => PySem.W.exmOne K (.ref X) c = some true ∧ N (((e.set i (.val (.exc X))).set j (.val (.exc X))).set i .any)
  | q => R q e
theorem x_try (h : ∀ W', Exec K pr W' (tb W') env N B C (caught K c i j N R)) : Exec K pr W (tTry K c i j tb) env N B C R := fun b F oa σ H D hp S st => by
  refine h (wKeep K c i j D) b F oa σ H D hp S ⟨st.nx, st.bk, st.ct, fun r env F' oa σ H v hr S' x q => ?_, fun X env F' oa σ H hr S' x => ?_⟩
  · cases r with
    | exc X => exact q.elim
    | val d => exact st.rt _ env F' oa σ H v hr S' x q
    | new o => exact st.rt _ env F' oa σ H v hr S' x q
  · obtain ⟨h1, h2⟩ := hr
    refine ⟨X, rfl, rfl, h1, fun a na => ?_⟩
    have rep : Rep K (upd F' a (ExK X a)) (.ref a) (.exc X) := .exc upd_same
    exact st.nx _ _ oa _ _ h2 (((S'.new na).set (i := i) rep).set (i := j) rep).unset (x.trans (Ex.new (S'.g.fh.back na)))
end

/-! ### isinstance, of exceptions too -/
def rIsX (K : PySem.W.Frag) : List V → Hp → VK → Prop := fun xs H Q => ∃ (a C : Addr) (c : V) (u : Value) (b : Bool), xs = [.ref a, c] ∧ H a = some (ExK C a) ∧ ExcC K C ∧ ClsV c u ∧ PySem.W.kitOne K (.ref C) u = some b ∧ Q (.bl b) H
def rIsXT (K : PySem.W.Frag) : List V → Hp → VK → Prop := fun xs H Q => ∃ (a C tp : Addr) (cs : List V) (us : List Value) (b : Bool), xs = [.ref a, .ref tp] ∧ H a = some (ExK C a) ∧ ExcC K C ∧ H tp = some (.tup cs) ∧ Paired ClsV cs us ∧ PySem.W.kitAny K (.ref C) us = some b ∧ Q (.bl b) H
theorem exk_at {X : Cx} {pins : List (Addr × Obj)} {σ : L2.St} {H : Hp} {s : Shared} {a C : Addr} (I : Inv X pins σ H s) (h : H a = some (ExK C a)) : ∃ oe, PySem.W.InstAt s.heap a oe C none := by
  obtain ⟨⟨oe, vs, h1, h2, h3⟩, _⟩ := (show ObjOk X.prog X.w H s.heap a (ExK C a) from I.hok a _ h)
  obtain ⟨oc, od, dt, sl⟩ := oe
  obtain ⟨z1, z2⟩ := h2
  dsimp only at z1 z2 h3
  subst z1 z2 h3
  exact ⟨_, h1, rfl, rfl, trivial⟩
section
variable {X : Cx}
theorem call_isX : CallR X (.builtin "isinstance") (rIsX X.K) := by
  intro pins s σ H xs us Q I r h
  obtain ⟨a, C, c, u, b, rfl, ha, x, k, e, q⟩ := h
  obtain ⟨u1, u2, rfl, r1, r2⟩ := vals2 r
  have e2 := k.eq r2
  subst e2
  cases (show u1 = Value.ref a from r1)
  obtain ⟨oe, J⟩ := exk_at I ha
  exact PySem.W.kia_one (PySem.W.handS_kitx_exc x.hg x.hk x.hs x.hd x.ha x.hn x.ht x.hm) I.kIn J e (fun z => nomatch z) fun tk => ⟨.bl b, H, I.tok tk, rfl, q⟩
theorem call_isXT : CallR X (.builtin "isinstance") (rIsXT X.K) := by
  intro pins s σ H xs us Q I r h
  obtain ⟨a, C, tp, cs, ws, b, rfl, ha, x, hT, k, e, q⟩ := h
  obtain ⟨u1, u2, rfl, r1, r2⟩ := vals2 r
  cases (show u1 = Value.ref a from r1)
  cases (show u2 = Value.ref tp from r2)
  obtain ⟨oe, J⟩ := exk_at I ha
  obtain ⟨_, its, rv, o, h1, h2, n, h3⟩ := (show ObjOk X.prog X.w H s.heap tp (.tup cs) from I.hok tp _ hT)
  have e3 := ClsV.all k rv
  subst e3
  obtain ⟨oc, od, dt, sl⟩ := o
  dsimp only at h2 h3
  subst h2 h3
  exact PySem.W.kia_tup (PySem.W.handS_kitx_exc x.hg x.hk x.hs x.hd x.ha x.hn x.ht x.hm) I.kIn J h1 e (fun z => nomatch z) fun tk => ⟨.bl b, H, I.tok tk, rfl, q⟩
end
def rIsiU (K : PySem.W.Frag) : List V → Hp → VK → Prop := fun xs H Q => rIsi K xs H Q ∨ (rIsiT K xs H Q ∨ (rIsX K xs H Q ∨ rIsXT K xs H Q))
theorem call_isiA {X : Cx} {K : PySem.W.Frag} (e : X.K = K := by rfl) : CallR X (.builtin "isinstance") (rIsiU K) := by subst e; exact CallR.or call_isi (CallR.or call_isiT (CallR.or call_isX call_isXT))
/-- raise C('..') -/
theorem ps_raiseC {X : Cx} {W : WX} {C : Addr} {e : Expr} {pos : Pos} (hc : X.calm = true) (tk : Takes X W) (he : PMk X e (fun _ H Q => Q (.ref C) none H)) : PS X (.Raise (some e) none pos) (tRaise W C) := ps_raise hc tk he
end DL

namespace DL
open PySem L2

/-! ### operators and built-ins by what their operands came to -/
def OpE (K : PySem.W.Frag) (rr : R2) (e : Env) (r1 r2 r : Res) : Prop := ∀ (b : Bs) (F : Hp) (oa : Nat → Addr) (σ : L2.St) (H : Hp) (x y : V), Sig K b F oa σ H e → RR K F oa x r1 → RR K F oa y r2 → ∀ Q : VK,
  (∀ v F' H', Sig K b F' oa σ H' e → Stp oa e F H e F' H' → RR K F' oa v r → Q v H') → rr x y H Q
def UnE (K : PySem.W.Frag) (rr : V → Hp → VK → Prop) (e : Env) (r1 r : Res) : Prop := ∀ (b : Bs) (F : Hp) (oa : Nat → Addr) (σ : L2.St) (H : Hp) (x : V), Sig K b F oa σ H e → RR K F oa x r1 → ∀ Q : VK,
  (∀ v F' H', Sig K b F' oa σ H' e → Stp oa e F H e F' H' → RR K F' oa v r → Q v H') → rr x H Q
def CbE (K : PySem.W.Frag) (rr : List V → Hp → VK → Prop) (e : Env) (rs : List Res) (r : Res) : Prop := ∀ (b : Bs) (F : Hp) (oa : Nat → Addr) (σ : L2.St) (H : Hp) (vs : List V), Sig K b F oa σ H e → RRs K F oa vs rs → ∀ Q : VK,
  (∀ v F' H', Sig K b F' oa σ H' e → Stp oa e F H e F' H' → RR K F' oa v r → Q v H') → rr vs H Q
section
variable {K : PySem.W.Frag} {te ta tb tc : TE} {t u : TT} {env e e1 e2 e3 : Env} {r r1 r2 r3 : Res} {d d1 d2 : D} {o : OB} {i j k' : Int} {x y : Str} {c c1 c2 : Bool} {l m : List D} {rr : R2}
theorem ev_o (ha : Ev K ta env r1 e1) (hb : Ev K tb e1 r2 e2) (h : OpE K rr e2 r1 r2 r) : Ev K (tOp rr ta tb) env r e2 := ev_op ha hb h
theorem ev_u {ru : V → Hp → VK → Prop} (ha : Ev K ta env r1 e1) (h : UnE K ru e1 r1 r) : Ev K (tUn ru ta) env r e1 := ev_un ha h
theorem ev_c {rc : List V → Hp → VK → Prop} {ts : TA} {rs : List Res} (ha : EvA K ts env rs e1) (h : CbE K rc e1 rs r) : Ev K (tCB rc ts) env r e1 := ev_cb ha h
theorem oe_f (f : flat d = true) (f1 : flat d1 = true) (f2 : flat d2 = true) (h : ∀ v w, Rep K (fun _ => none) v d1 → Rep K (fun _ => none) w d2 → ∃ z, Rep K (fun _ => none) z d ∧ ∀ H Q, Q z H → rr v w H Q) : OpE K rr e (.val d1) (.val d2) (.val d) :=
  fun b F oa σ H v w S h1 h2 Q k => by
    obtain ⟨z, hz, q⟩ := h v w (Rep.flat h1 f1) (Rep.flat h2 f2)
    exact q H Q (k z F H S Stp.refl (Rep.flat hz f))
theorem oe_ii {z : V} (hz : Rep K (fun _ => none) z d) (f : flat d = true) (h : ∀ H Q, Q z H → rr (.int i) (.int j) H Q) : OpE K rr e (.val (.int i)) (.val (.int j)) (.val d) :=
  oe_f f rfl rfl fun v w h1 h2 => by cases h1; cases h2; exact ⟨z, hz, h⟩
theorem oe_add : OpE K (rAddU K) e (.val (.int i)) (.val (.int j)) (.val (.int (i + j))) := oe_ii (.int _) rfl fun H Q q => .inl ⟨i, j, rfl, rfl, q⟩
theorem oe_adds (hl : x.length + y.length ≤ sizeLine) : OpE K (rAddU K) e (.val (.str x)) (.val (.str y)) (.val (.str (x ++ y))) :=
  oe_f rfl rfl rfl fun v w h1 h2 => by cases h1; cases h2; exact ⟨_, .str _, fun H Q q => .inr (.inl ⟨x, y, rfl, rfl, hl, q⟩)⟩
theorem oe_addt (hz : l.length + m.length ≤ sizeLine) : OpE K (rAddU K) e (.val (.tup l)) (.val (.tup m)) (.val (.tup (l ++ m))) := fun b F oa σ H v w S h1 h2 Q k => by
  cases h1 with
  | tup s p =>
    cases h2 with
    | tup s' p' =>
      rename_i a vs a' ws
      refine .inr (.inr (.inl ⟨a, a', vs, ws, rfl, rfl, S.g.fh.t s, S.g.fh.t s', by rw [p.length, p'.length]; exact hz, fun e => ?_, fun _ e => ?_, fun _ _ z hp => ?_⟩))
      · subst e
        cases p
        exact k _ _ _ S Stp.refl (.tup s' p')
      · subst e
        cases p'
        rw [List.append_nil] at k
        exact k _ _ _ S Stp.refl (.tup s p)
      · exact k _ _ _ (S.new hp) (Stp.new hp (S.g.fh.back hp)) (.tup (.inl (.inl upd_same)) ((p.append p').mono (Ex.new (S.g.fh.back hp))))
theorem oe_sub : OpE K rSubU e (.val (.int i)) (.val (.int j)) (.val (.int (i - j))) := oe_ii (.int _) rfl fun H Q q => ⟨i, j, rfl, rfl, q⟩
theorem oe_mul (hc : CMul i j ∨ CMulX i j) : OpE K rMulU e (.val (.int i)) (.val (.int j)) (.val (.int (i * j))) := oe_ii (.int _) rfl fun H Q q => by
  rcases hc with h | h
  · exact .inl ⟨i, j, rfl, rfl, h, q⟩
  · exact .inr (.inl ⟨i, j, rfl, rfl, h, q⟩)
theorem oe_div (h : 0 < j ∧ j.natAbs.log2 < 9000) : OpE K rDivU e (.val (.int i)) (.val (.int j)) (.val (.int (i / j))) := oe_ii (.int _) rfl fun H Q q => ⟨i, j, rfl, rfl, h, q⟩
theorem oe_mod (h : 0 < j) : OpE K rModU e (.val (.int i)) (.val (.int j)) (.val (.int (i % j))) := oe_ii (.int _) rfl fun H Q q => ⟨i, j, rfl, rfl, h, q⟩
theorem oe_pow (h : CPow i j) : OpE K rPowU e (.val (.int i)) (.val (.int j)) (.val (.int (i ^ j.toNat))) := oe_ii (.int _) rfl fun H Q q => ⟨i, j, rfl, rfl, h, q⟩
theorem oe_shl (h : CShl i j) : OpE K rShlU e (.val (.int i)) (.val (.int j)) (.val (.int (i * 2 ^ j.toNat))) := oe_ii (.int _) rfl fun H Q q => ⟨i, j, rfl, rfl, h, q⟩
theorem oe_shr (h : 0 ≤ j) : OpE K rShrU e (.val (.int i)) (.val (.int j)) (.val (.int (i / 2 ^ j.toNat))) := oe_ii (.int _) rfl fun H Q q => ⟨i, j, rfl, rfl, h, q⟩
theorem oe_band : OpE K rAndU e (.val (.int i)) (.val (.int j)) (.val (.int (Builtin.bitAnd i j))) := oe_ii (.int _) rfl fun H Q q => ⟨i, j, rfl, rfl, q⟩
theorem oe_bor : OpE K rOrU e (.val (.int i)) (.val (.int j)) (.val (.int (Builtin.bitOr i j))) := oe_ii (.int _) rfl fun H Q q => ⟨i, j, rfl, rfl, q⟩
theorem oe_bxor : OpE K rXorU e (.val (.int i)) (.val (.int j)) (.val (.int (Builtin.bitXor i j))) := oe_ii (.int _) rfl fun H Q q => ⟨i, j, rfl, rfl, q⟩
theorem oe_lt : OpE K rLtU e (.val (.int i)) (.val (.int j)) (.val (.bl (decide (i < j)))) := oe_ii (.bl _) rfl fun H Q q => ⟨i, j, rfl, rfl, q⟩
theorem oe_le : OpE K rLeU e (.val (.int i)) (.val (.int j)) (.val (.bl (decide (i ≤ j)))) := oe_ii (.bl _) rfl fun H Q q => ⟨i, j, rfl, rfl, q⟩
theorem oe_gt : OpE K rGtU e (.val (.int i)) (.val (.int j)) (.val (.bl (decide (j < i)))) := oe_ii (.bl _) rfl fun H Q q => ⟨i, j, rfl, rfl, q⟩
theorem oe_ge : OpE K rGeU e (.val (.int i)) (.val (.int j)) (.val (.bl (decide (j ≤ i)))) := oe_ii (.bl _) rfl fun H Q q => ⟨i, j, rfl, rfl, q⟩
theorem dec_int : decide (V.int i = V.int j) = decide (i = j) := by simp
theorem dec_str : decide (V.str x = V.str y) = decide (x = y) := by simp
theorem oe_eqi : OpE K (rEqU K) e (.val (.int i)) (.val (.int j)) (.val (.bl (decide (i = j)))) := oe_ii (z := .bl (decide (i = j))) (.bl _) rfl fun H Q q => .inl ⟨rfl, by rw [dec_int]; exact q⟩
theorem oe_nei : OpE K (rNeU K) e (.val (.int i)) (.val (.int j)) (.val (.bl (!decide (i = j)))) := oe_ii (z := .bl (!decide (i = j))) (.bl _) rfl fun H Q q => .inl ⟨rfl, by rw [dec_int]; exact q⟩
theorem oe_eqs : OpE K (rEqU K) e (.val (.str x)) (.val (.str y)) (.val (.bl (decide (x = y)))) := oe_f rfl rfl rfl fun v w h1 h2 => by cases h1; cases h2; exact ⟨_, .bl _, fun H Q q => .inl ⟨rfl, by rw [dec_str]; exact q⟩⟩
theorem oe_nes : OpE K (rNeU K) e (.val (.str x)) (.val (.str y)) (.val (.bl (!decide (x = y)))) := oe_f rfl rfl rfl fun v w h1 h2 => by cases h1; cases h2; exact ⟨_, .bl _, fun H Q q => .inl ⟨rfl, by rw [dec_str]; exact q⟩⟩
theorem oe_eqd (h1 : Rd e r1 d1) (h2 : Rd e r2 d2) (hq : eqD d1 d2 = some c) : OpE K (rEqU K) e r1 r2 (.val (.bl c)) := fun b F oa σ H v w S g1 g2 Q k => by
  unfold eqD at hq
  cases p1 : py d1 with
  | none => rw [p1] at hq; cases hq
  | some a =>
    cases p2 : py d2 with
    | none => rw [p1, p2] at hq; cases hq
    | some a' =>
      rw [p1, p2] at hq
      simp only at hq
      split at hq
      · rename_i z
        rw [Bool.and_eq_true] at z
        cases hq
        exact .inr ⟨a, a', (h1.rep S g1).dp p1, (h2.rep S g2).dp p2, z.1, z.2, k _ F H S Stp.refl (.bl _)⟩
      · cases hq
theorem oe_ned (h1 : Rd e r1 d1) (h2 : Rd e r2 d2) (hq : eqD d1 d2 = some c) : OpE K (rNeU K) e r1 r2 (.val (.bl (!c))) := fun b F oa σ H v w S g1 g2 Q k => by
  unfold eqD at hq
  cases p1 : py d1 with
  | none => rw [p1] at hq; cases hq
  | some a =>
    cases p2 : py d2 with
    | none => rw [p1, p2] at hq; cases hq
    | some a' =>
      rw [p1, p2] at hq
      simp only at hq
      split at hq
      · rename_i z
        rw [Bool.and_eq_true] at z
        cases hq
        exact .inr ⟨a, a', (h1.rep S g1).dp p1, (h2.rep S g2).dp p2, z.1, z.2, k _ F H S Stp.refl (.bl _)⟩
      · cases hq
theorem oe_isn : OpE K rIsU e (.val d) (.val .non) (.val (.bl (isNon d))) := fun b F oa σ H v w S g1 g2 Q k => by
  cases g2
  refine .inl ⟨rfl, ?_⟩
  rw [rep_non g1]
  exact k _ F H S Stp.refl (.bl _)
theorem oe_notn : OpE K rNotU e (.val d) (.val .non) (.val (.bl (!isNon d))) := fun b F oa σ H v w S g1 g2 Q k => by
  cases g2
  refine .inl ⟨rfl, ?_⟩
  rw [rep_non g1]
  exact k _ F H S Stp.refl (.bl _)
theorem oe_isb : OpE K rIsU e (.val (.bl c1)) (.val (.bl c2)) (.val (.bl (decide (c1 = c2)))) := fun b F oa σ H v w S g1 g2 Q k => by
  cases g1; cases g2
  exact .inr ⟨c1, c2, rfl, rfl, k _ F H S Stp.refl (.bl _)⟩
/-- an item: of a list, a tuple, a text -/
theorem oe_ixl (q : RdL e r l) (hi : atI l i = some d) : OpE K (rIx K) e r (.val (.int i)) (.val d) := fun b F oa σ H v w S h1 h2 Q k => by
  cases h2
  obtain ⟨a, vs, rfl, s, p⟩ := q.g S h1
  unfold atI at hi
  obtain ⟨n, e, g⟩ := Option.bind_eq_some_iff.mp hi
  obtain ⟨z, z1, z2⟩ := p.get g
  refine .inl ⟨a, vs, i, z, rfl, rfl, s, ?_, k z F H S Stp.refl z2⟩
  unfold atI
  rw [p.length, e]
  exact z1
theorem oe_ixt (hi : atI l i = some d) : OpE K (rIx K) e (.val (.tup l)) (.val (.int i)) (.val d) := fun b F oa σ H v w S h1 h2 Q k => by
  cases h2
  cases h1 with
  | tup s p =>
    rename_i a vs
    unfold atI at hi
    obtain ⟨n, e, g⟩ := Option.bind_eq_some_iff.mp hi
    obtain ⟨z, z1, z2⟩ := p.get g
    refine .inr (.inl ⟨a, vs, i, z, rfl, rfl, S.g.fh.t s, ?_, k z F H S Stp.refl z2⟩)
    unfold atI
    rw [p.length, e]
    exact z1
theorem oe_ixs {n : Nat} (hl : x.length ≤ sizeLine) (hi : atI x.cps.toList i = some n) : OpE K (rIx K) e (.val (.str x)) (.val (.int i)) (.val (.str ⟨#[n]⟩)) := fun b F oa σ H v w S h1 h2 Q k => by
  cases h1; cases h2
  exact .inr (.inr ⟨x, i, n, rfl, rfl, hl, hi, k _ F H S Stp.refl (.str _)⟩)
theorem ue_neg : UnE K (rU fun i => .int (-i)) e (.val (.int i)) (.val (.int (-i))) := fun b F oa σ H v S h Q k => by cases h; exact ⟨i, rfl, k _ F H S Stp.refl (.int _)⟩
theorem ce_len (q : RdL e r l ∨ Rd e r (.tup l)) : CbE K (rLenU K) e [r] (.val (.int (l.length : Int))) := fun b F oa σ H vs S h Q k => by
  match vs, h with
  | [v], h => exact .inl ⟨v, l.length, rfl, rd_len S h.1 q, k _ F H S Stp.refl (.int _)⟩
theorem ce_lens (hl : x.length ≤ sizeLine) : CbE K (rLenU K) e [.val (.str x)] (.val (.int (x.length : Int))) := fun b F oa σ H vs S h Q k => by
  match vs, h with
  | [v], h => cases h.1; exact .inl ⟨_, _, rfl, ⟨hl, rfl⟩, k _ F H S Stp.refl (.int _)⟩
theorem ce_abs : CbE K rAbs e [.val (.int i)] (.val (.int (if i < 0 then -i else i))) := fun b F oa σ H vs S h Q k => by
  match vs, h with
  | [v], h => cases h.1; exact ⟨i, rfl, k _ F H S Stp.refl (.int _)⟩
theorem ce_max2 : CbE K rMax2 e [.val (.int i), .val (.int j)] (.val (.int (if j > i then j else i))) := fun b F oa σ H vs S h Q k => by
  match vs, h with
  | [v, w], h => cases h.1; cases h.2.1; exact ⟨i, j, rfl, k _ F H S Stp.refl (.int _)⟩
theorem ce_min2 : CbE K rMin2 e [.val (.int i), .val (.int j)] (.val (.int (if j < i then j else i))) := fun b F oa σ H vs S h Q k => by
  match vs, h with
  | [v, w], h => cases h.1; cases h.2.1; exact ⟨i, j, rfl, k _ F H S Stp.refl (.int _)⟩
theorem ce_int : CbE K rInt1 e [.val (.int i)] (.val (.int i)) := fun b F oa σ H vs S h Q k => by
  match vs, h with
  | [v], h => cases h.1; exact .inl ⟨i, rfl, k _ F H S Stp.refl (.int _)⟩
theorem ce_intb : CbE K rInt1 e [.val (.bl c)] (.val (.int (if c then 1 else 0))) := fun b F oa σ H vs S h Q k => by
  match vs, h with
  | [v], h => cases h.1; exact .inr ⟨c, rfl, k _ F H S Stp.refl (.int _)⟩
theorem ce_all {bs : List Bool} (q : RdL e r (bs.map D.bl)) : CbE K (rAll K) e [r] (.val (.bl (bs.all id))) := fun b F oa σ H vs S h Q k => by
  match vs, h with
  | [v], h =>
    obtain ⟨a, ws, rfl, s, p⟩ := q.g S h.1
    have e := p.bools
    subst e
    exact ⟨a, bs, rfl, s, k _ F H S Stp.refl (.bl _)⟩
theorem ce_any {bs : List Bool} (q : RdL e r (bs.map D.bl)) : CbE K (rAny K) e [r] (.val (.bl (bs.any id))) := fun b F oa σ H vs S h Q k => by
  match vs, h with
  | [v], h =>
    obtain ⟨a, ws, rfl, s, p⟩ := q.g S h.1
    have e := p.bools
    subst e
    exact ⟨a, bs, rfl, s, k _ F H S Stp.refl (.bl _)⟩
theorem ce_sum {ns : List Int} (q : RdL e r (ns.map D.int)) : CbE K (rSum K) e [r] (.val (.int ns.sum)) := fun b F oa σ H vs S h Q k => by
  match vs, h with
  | [v], h =>
    obtain ⟨a, ws, rfl, s, p⟩ := q.g S h.1
    have e := p.ints
    subst e
    exact ⟨a, ns, rfl, s, k _ F H S Stp.refl (.int _)⟩
theorem ce_tup (q : RdL e r l) : CbE K (rTupleOf K) e [r] (.val (.tup l)) := fun b F oa σ H vs S h Q k => by
  match vs, h with
  | [v], h =>
    obtain ⟨a, ws, rfl, s, p⟩ := q.g S h.1
    exact ⟨a, ws, rfl, .inl ⟨s, fun p' hp => k _ _ _ (S.new hp) (Stp.new hp (S.g.fh.back hp)) (.tup (.inl (.inl upd_same)) (p.mono (Ex.new (S.g.fh.back hp))))⟩⟩
theorem ce_tupt : CbE K (rTupleOf K) e [.val (.tup l)] (.val (.tup l)) := fun b F oa σ H vs S h Q k => by
  match vs, h with
  | [v], h =>
    cases h.1 with
    | tup s p => exact ⟨_, _, rfl, .inr ⟨S.g.fh.t s, k _ F H S Stp.refl (.tup s p)⟩⟩
/-- is the thing's class n within m; of a class that tells nothing else -/
def isD (m : String) (d : D) : Option Bool := (tyD d).bind fun n => kitB n m
theorem ce_isi {mm : String} (q : Rd e r d) (hk : isD mm d = some c) : CbE K (rIsiU K) e [r, .val (.ty mm)] (.val (.bl c)) := fun b F oa σ H vs S h Q k => by
  match vs, h with
  | [v, w], h =>
    cases h.2.1
    unfold isD at hk
    obtain ⟨n, h1, h2⟩ := Option.bind_eq_some_iff.mp hk
    exact .inl ⟨v, .ty mm, .type n, .type mm, c, rfl, .ty mm, ty_rep (Ex.refl _) (q.rep S h.1) h1, kit_ty h2, k _ F H S Stp.refl (.bl _)⟩
/-- .. of an exception that is kept -/
theorem ce_isx {C C' : Addr} (x : ExcC K C) (hk : PySem.W.kitOne K (.ref C) (.ref C') = some c) : CbE K (rIsiU K) e [.val (.exc C), .val (.ref C')] (.val (.bl c)) := fun b F oa σ H vs S h Q k => by
  match vs, h with
  | [v, w], h =>
    cases h.2.1
    cases h.1 with
    | exc ha => exact .inr (.inr (.inl ⟨_, C, _, _, c, rfl, S.g.fh _ _ ha, x, .own C', hk, k _ F H S Stp.refl (.bl _)⟩))
theorem ce_isxt {C : Addr} {mm : String} (x : ExcC K C) (hk : PySem.W.kitOne K (.ref C) (.type mm) = some c) : CbE K (rIsiU K) e [.val (.exc C), .val (.ty mm)] (.val (.bl c)) := fun b F oa σ H vs S h Q k => by
  match vs, h with
  | [v, w], h =>
    cases h.2.1
    cases h.1 with
    | exc ha => exact .inr (.inr (.inl ⟨_, C, _, _, c, rfl, S.g.fh _ _ ha, x, .ty mm, hk, k _ F H S Stp.refl (.bl _)⟩))
/-- a < b < c, by what came of the three -/
theorem ev_ch {q q' : R2} (ha : Ev K ta env r1 e1) (hb : Ev K tb e1 r2 e2) (h1 : OpE K q e2 r1 r2 (.val (.bl c1))) (hc : c1 = true → Ev K tc e2 r3 e2) (h2 : c1 = true → OpE K q' e2 r2 r3 (.val (.bl c2))) : Ev K (tChain q q' ta tb tc) env (.val (.bl (c1 && c2))) e2 := by
  intro b F oa σ H S Q k
  refine ha b F oa σ H S _ fun x F1 H1 S1 g1 q1 => hb b F1 oa σ H1 S1 _ fun y F2 H2 S2 g2 q2 => h1 b F2 oa σ H2 x y S2 (q1.mono g2.ff) q2 _ fun v F3 H3 S3 g3 q3 => ?_
  cases q3
  refine ⟨c1, rfl, ?_⟩
  cases c1 with
  | false => exact k _ F3 H3 S3 ((g1.trans g2).trans g3) (.bl _)
  | true =>
    exact hc rfl b F3 oa σ H3 S3 _ fun z F4 H4 S4 g4 q4 => h2 rfl b F4 oa σ H4 y z S4 ((q2.mono g3.ff).mono g4.ff) q4 _ fun v F5 H5 S5 g5 q5 => by
      cases q5
      exact k _ F5 H5 S5 ((((g1.trans g2).trans g3).trans g4).trans g5) (.bl _)
/-- a comprehension whose parts leave the slots as they are -/
theorem en_lcp {α : Type} {wi : TI} {g : TG} {tt : TT} {vs js : List Nat} (xs : List α) (g0 : α → D) (p : α → Bool) (f : α → D) (hi : EvI K wi env (xs.map g0) e1) (hn : noOwn vs e1) (hz : xs.length ≤ sizeLine) (hj : ∀ j ∈ js, j ∈ vs)
    (e2 : α → Env) (hg : ∀ x ∈ xs, EvGs K g js (g0 x) (wipeE e1 vs) (e2 x)) (ho : ∀ x ∈ xs, ∀ (j : Nat) (o : OB), (e2 x)[j]? = some (.own o) → ∃ o', (wipeE e1 vs)[j]? = some (.own o')) (hb : ∀ x ∈ xs, back vs 0 e1 (e2 x) = e1)
    (ht : ∀ x ∈ xs, EvT K tt (e2 x) (p x) (e2 x)) (he : ∀ x ∈ xs, p x = true → Ev K te (e2 x) (.val (f x)) (e2 x)) : EvN K (tLc wi g tt te vs) env (.lst ((xs.filter p).map f)) e1 := by
  have h := en_lc (K := K) (g := g) (tt := tt) (te := te) (vs := vs) (js := js) (ds := xs.map g0) (env := env) (fun _ => e1) (fun i => ((xs.take i).filter p).map f) hi rfl (fun i _ => hn) (by simpa using hz) hj fun i d hd => by
    rw [List.getElem?_map] at hd
    cases q : xs[i]? with
    | none => rw [q] at hd; cases hd
    | some x =>
      rw [q] at hd
      cases hd
      have hx : x ∈ xs := List.mem_of_getElem? q
      have tk : xs.take (i + 1) = xs.take i ++ [x] := by rw [List.take_add_one, q]; rfl
      refine ⟨e2 x, p x, e2 x, hg x hx, ho x hx, ht x hx, fun hp => ⟨f x, e2 x, he x hx hp, ?_, (hb x hx).symm⟩, fun hp => ⟨?_, (hb x hx).symm⟩⟩
      · rw [tk, List.filter_append, List.map_append, List.filter_cons, if_pos hp]; rfl
      · rw [tk, List.filter_append, List.map_append, List.filter_cons, if_neg (by rw [hp]; decide)]
        show _ ++ [] = _
        rw [List.append_nil]
  have e : ((xs.take (xs.map g0).length).filter p).map f = (xs.filter p).map f := by rw [List.length_map, List.take_length]
  rw [e] at h
  exact h
theorem et_yes : EvT K tYes env true env := fun b F oa σ H S Q k => k F H S Stp.refl
end

/-! ### defs -/
/-- a def that may be called by its name -/
structure Df (P : Program) (w : World) (K : PySem.W.Frag) (mg : Str → Option Value) (base : Heap) (k : Nat) (x : Str) (sp : Sp) : Prop where
  ex : ∃ (f : Addr) (fd : FuncData) (ps : List Str), FnOk P w K mg base CX0 k f fd ps sp ∧ mg x = some (.ref f) ∧ PySem.W.keepIn K (.ref f) = true ∧ Binds K fd ps []
section
variable {X : Cx} {k j : Nat} {x : Str} {sp : Sp} {p pos : Pos} {e : Expr} {es : List Expr} {t : TA}
theorem pe_df (c : Df X.prog X.w X.K X.mg X.base k x sp) (hr : Room j X.A) (hk : k ≤ j) (hg : Gl X x) (ha : PA X (e :: es) t)
    (hdb : (x == ("__debug__" : Str)) = false := by decide) (he : starEach (e :: es) X.env = (false, eval e X.env) :: starEach es X.env := by rfl) (hpl : (backTo pos (starEach es X.env)).any (·.1) = false := by rfl) :
    PE X (.Call (.Name x p) (e :: es) [] pos) (tCall sp [] E0 t) := by
  obtain ⟨f, fd, ps, F, hm, kp, b⟩ := c.ex
  exact pe_call F (hr.mono hk) hg hm kp b .nil pass0 ha hdb he hpl
end
/-- .. that may raise -/
structure Dx (P : Program) (w : World) (K : PySem.W.Frag) (mg : Str → Option Value) (base : Heap) (k : Nat) (x : Str) (sp : Sp) : Prop where
  ex : ∃ (f : Addr) (fd : FuncData) (ps : List Str), FnOk P w K mg base (L2.CX P w) k f fd ps sp ∧ mg x = some (.ref f) ∧ PySem.W.keepIn K (.ref f) = true ∧ Binds K fd ps []
section
variable {X : Cx} {W : WX} {k j : Nat} {x : Str} {sp : Sp} {p pos : Pos} {e : Expr} {es : List Expr} {t : TA}
theorem pe_dx (c : Dx X.prog X.w X.K X.mg X.base k x sp) (tk : Takes X W) (hr : Room j X.A) (hk : k ≤ j) (hg : Gl X x) (ha : PA X (e :: es) t)
    (hdb : (x == ("__debug__" : Str)) = false := by decide) (he : starEach (e :: es) X.env = (false, eval e X.env) :: starEach es X.env := by rfl) (hpl : (backTo pos (starEach es X.env)).any (·.1) = false := by rfl) :
    PE X (.Call (.Name x p) (e :: es) [] pos) (tCallS sp (WE W) t) := by
  obtain ⟨f, fd, ps, F, hm, kp, b⟩ := c.ex
  exact pe_callS F (hr.mono hk) hg hm kp b (fun σ => passAt tk σ) ha hdb he hpl
/-- .. and does not, where it is called -/
theorem pe_dx0 (c : Dx X.prog X.w X.K X.mg X.base k x sp) (hr : Room j X.A) (hk : k ≤ j) (hg : Gl X x) (ha : PA X (e :: es) t)
    (hdb : (x == ("__debug__" : Str)) = false := by decide) (he : starEach (e :: es) X.env = (false, eval e X.env) :: starEach es X.env := by rfl) (hpl : (backTo pos (starEach es X.env)).any (·.1) = false := by rfl) :
    PE X (.Call (.Name x p) (e :: es) [] pos) (tCall sp [] E0 t) := by
  obtain ⟨f, fd, ps, F, hm, kp, b⟩ := c.ex
  exact pe_call F (hr.mono hk) hg hm kp b .nil passL ha hdb he hpl
end
/-- data in; data, a new object or an exception out -/
def PR (f : List D → Ret → Prop) : List AV → Ret → List AV → Prop := fun as r as' => ∃ ds, as = ds.map AV.val ∧ as' = as ∧ f ds r
/-- data in, data out -/
def PV (f : List D → D → Prop) : List AV → Ret → List AV → Prop := fun as r as' => ∃ ds d, as = ds.map AV.val ∧ r = .val d ∧ as' = as ∧ f ds d
/-- data in, a new object out -/
def PN (f : List D → OB → Prop) : List AV → Ret → List AV → Prop := fun as r as' => ∃ ds o, as = ds.map AV.val ∧ r = .new o ∧ as' = as ∧ f ds o
theorem vals_noOwn {ds : List D} {i : Nat} {o : OB} : (ds.map AV.val)[i]? ≠ some (AV.own o) := by
  rw [List.getElem?_map]
  cases ds[i]? <;> simp
theorem argOf_vals {env : Env} : ∀ {rs : List Res} {ds : List D}, vals rs = some ds → argOf env rs = some (ds.map AV.val)
  | [], ds, h => by cases h; rfl
  | .val d :: r, ds, h => by
    unfold vals at h
    cases z : vals r with
    | none => rw [z] at h; cases h
    | some t => rw [z] at h; cases h; unfold argOf; rw [argOf_vals z]; rfl
  | .slot i :: r, ds, h => by cases h
theorem slots_vals : ∀ {rs : List Res} {ds : List D}, vals rs = some ds → slots rs = []
  | [], ds, h => rfl
  | .val d :: r, ds, h => by
    unfold vals at h
    cases z : vals r with
    | none => rw [z] at h; cases h
    | some t => unfold slots; exact slots_vals z
  | .slot i :: r, ds, h => by cases h
theorem putA_vals {env : Env} : ∀ {rs : List Res} {ds : List D} {as : List AV}, vals rs = some ds → putA rs as env = env
  | [], ds, as, h => by unfold putA; rfl
  | .val d :: r, ds, [], h => by unfold putA; rfl
  | .val d :: r, ds, a :: as, h => by
    unfold vals at h
    cases z : vals r with
    | none => rw [z] at h; cases h
    | some t => unfold putA; exact putA_vals z
  | .slot i :: r, ds, as, h => by cases h
section
variable {K : PySem.W.Frag} {env e1 : Env} {f : List D → D → Prop} {g : List D → OB → Prop} {rs : List Res} {ds : List D} {d : D} {o : OB} {ta : TA} {E : XK}
theorem ev_callV (h : EvA K ta env rs e1) (hv : vals rs = some ds) (hf : f ds d) : Ev K (tCall (SpG K (PV f)) [] E ta) env (.val d) e1 := by
  have q := ev_call (E := E) (as' := ds.map AV.val) h (argOf_vals hv) (by rw [slots_vals hv]; exact List.nodup_nil) (P := PV f) ⟨ds, d, rfl, rfl, rfl, hf⟩ rfl
  rw [putA_vals hv] at q
  exact q
theorem en_callV (h : EvA K ta env rs e1) (hv : vals rs = some ds) (hf : g ds o) : EvN K (tCall (SpG K (PN g)) [] E ta) env o e1 := by
  have q := en_call (E := E) (as' := ds.map AV.val) h (argOf_vals hv) (by rw [slots_vals hv]; exact List.nodup_nil) (P := PN g) ⟨ds, o, rfl, rfl, rfl, hf⟩ rfl
  rw [putA_vals hv] at q
  exact q
end
section
variable {K : PySem.W.Frag} {env e1 : Env} {f : List D → Ret → Prop} {rs : List Res} {ds : List D} {d : D} {o : OB} {ta : TA} {W : WX} {C : Addr} {E : XK}
theorem ev_callR (h : EvA K ta env rs e1) (hv : vals rs = some ds) (hf : f ds (.val d)) : Ev K (tCallS (SpG K (PR f)) (WE W) ta) env (.val d) e1 := by
  have q := ev_callS (W := W) (as' := ds.map AV.val) h (argOf_vals hv) (by rw [slots_vals hv]; exact List.nodup_nil) (P := PR f) ⟨ds, rfl, rfl, hf⟩ rfl
  rw [putA_vals hv] at q
  exact q
theorem en_callR (h : EvA K ta env rs e1) (hv : vals rs = some ds) (hf : f ds (.new o)) : EvN K (tCallS (SpG K (PR f)) (WE W) ta) env o e1 := by
  have q := en_callS (W := W) (as' := ds.map AV.val) h (argOf_vals hv) (by rw [slots_vals hv]; exact List.nodup_nil) (P := PR f) ⟨ds, rfl, rfl, hf⟩ rfl
  rw [putA_vals hv] at q
  exact q
theorem ex_callR (h : EvA K ta env rs e1) (hv : vals rs = some ds) (hf : f ds (.exc C)) : EvX K W (tCallS (SpG K (PR f)) (WE W) ta) env C e1 := by
  have q := ex_callS (W := W) (as' := ds.map AV.val) h (argOf_vals hv) (by rw [slots_vals hv]; exact List.nodup_nil) (P := PR f) ⟨ds, rfl, rfl, hf⟩ rfl
  rw [putA_vals hv] at q
  exact q
theorem ev_callR0 (h : EvA K ta env rs e1) (hv : vals rs = some ds) (hf : f ds (.val d)) : Ev K (tCall (SpG K (PR f)) [] E ta) env (.val d) e1 := by
  have q := ev_call (E := E) (as' := ds.map AV.val) h (argOf_vals hv) (by rw [slots_vals hv]; exact List.nodup_nil) (P := PR f) ⟨ds, rfl, rfl, hf⟩ rfl
  rw [putA_vals hv] at q
  exact q
theorem en_callR0 (h : EvA K ta env rs e1) (hv : vals rs = some ds) (hf : f ds (.new o)) : EvN K (tCall (SpG K (PR f)) [] E ta) env o e1 := by
  have q := en_call (E := E) (as' := ds.map AV.val) h (argOf_vals hv) (by rw [slots_vals hv]; exact List.nodup_nil) (P := PR f) ⟨ds, rfl, rfl, hf⟩ rfl
  rw [putA_vals hv] at q
  exact q
end
section
variable {P : Program} {w : World} {K : PySem.W.Frag} {mg : Str → Option Value} {base : Heap} {x qn : Str} {st : Stmt} {fa : Addr} {fd : FuncData} {N ps : List Str} {k : Nat}
theorem spG_len {Pr : List AV → Ret → List AV → Prop} {n : Nat} (hn : ∀ as r as', Pr as r as' → as.length = n) {vs : List V} {H : Hp} {Q : VK} {E : XK} (h : SpG K Pr vs H Q E) : vs.length = n := by
  obtain ⟨F, as, r, as', _, ar, p, _⟩ := h
  rw [ar.len, hn as r as' p]
theorem Fn.ofG {Pr : List AV → Ret → List AV → Prop} (F : Fun K x qn st fa fd) (S : FnScope N ps (defScope st)) (hn : ∀ as r as', Pr as r as' → as.length = ps.length)
    (body : ∀ (cdv : Value) (A : Around) (outer : List PySem.Env) (s : Shared) (H : Hp) (E : XK), Room k (A.deeper (PyProof.Rows.envOfC qn (defScope st) s.heap.objs.size fa cdv)) →
      ∃ t, PSs (cxOf CX0 P w K mg base N qn (defScope st) fa cdv A outer s H E).nox (defBody st) t ∧ ∀ as r as', Pr as r as' → ∃ pr : List Nat, (∀ (i : Nat) (o : OB), as[i]? = some (AV.own o) → i ∈ pr) ∧ Exec K pr (fun cls d _ H => E cls d H) t (as.map AV.ev ++ List.replicate (N.length - ps.length) .any)
      (fun e => r = .val .non ∧ Held as as' e) (fun _ => False) (fun _ => False) (fun q e => q = r ∧ Held as as' e)) : FnOk P w K mg base CX0 (k + 1) fa fd ps (SpG K Pr) :=
  F.ok S (fun vs H Q E h => spG_len hn h) (fun cdv A outer s H vs Q E hr h => by
    obtain ⟨t, h1, h2⟩ := body cdv A outer s H E hr
    have hpl : ps.length ≤ N.length := by have := congrArg List.length S.pre; rw [List.length_take] at this; omega
    exact ⟨t, h1, run_SpG h (fun as r as' p => ⟨hn as r as' p, hpl⟩) h2⟩)
theorem Fn.ofV {f : List D → D → Prop} (F : Fun K x qn st fa fd) (S : FnScope N ps (defScope st)) (hn : ∀ ds d, f ds d → ds.length = ps.length)
    (body : ∀ (cdv : Value) (A : Around) (outer : List PySem.Env) (s : Shared) (H : Hp) (E : XK), Room k (A.deeper (PyProof.Rows.envOfC qn (defScope st) s.heap.objs.size fa cdv)) →
      ∃ t, PSs (cxOf CX0 P w K mg base N qn (defScope st) fa cdv A outer s H E).nox (defBody st) t ∧ ∀ ds d, f ds d → Exec K [] (fun cls d _ H => E cls d H) t (ds.map EV.val ++ List.replicate (N.length - ps.length) .any)
      (fun _ => d = .non) (fun _ => False) (fun _ => False) (fun q _ => q = .val d)) : FnOk P w K mg base CX0 (k + 1) fa fd ps (SpG K (PV f)) :=
  Fn.ofG F S (fun as r as' ⟨ds, d, h1, _, _, h4⟩ => by rw [h1, List.length_map]; exact hn ds d h4) fun cdv A outer s H E hr => by
    obtain ⟨t, h1, h2⟩ := body cdv A outer s H E hr
    refine ⟨t, h1, fun as r as' ⟨ds, d, e1, e2, e3, hf⟩ => ⟨[], fun i o h => absurd h (by rw [e1]; exact vals_noOwn), ?_⟩⟩
    subst e1 e2 e3
    have held : ∀ e, Held (ds.map AV.val) (ds.map AV.val) e := fun e i o h => absurd h vals_noOwn
    have em : (ds.map AV.val).map AV.ev = ds.map EV.val := by rw [List.map_map]; rfl
    rw [em]
    exact x_mono (h2 ds d hf) (fun e h => ⟨by rw [h], held e⟩) (fun _ h => h) (fun _ h => h) fun q e h => ⟨h, held e⟩
theorem Fn.ofN {f : List D → OB → Prop} (F : Fun K x qn st fa fd) (S : FnScope N ps (defScope st)) (hn : ∀ ds d, f ds d → ds.length = ps.length)
    (body : ∀ (cdv : Value) (A : Around) (outer : List PySem.Env) (s : Shared) (H : Hp) (E : XK), Room k (A.deeper (PyProof.Rows.envOfC qn (defScope st) s.heap.objs.size fa cdv)) →
      ∃ t, PSs (cxOf CX0 P w K mg base N qn (defScope st) fa cdv A outer s H E).nox (defBody st) t ∧ ∀ ds o, f ds o → Exec K [] (fun cls d _ H => E cls d H) t (ds.map EV.val ++ List.replicate (N.length - ps.length) .any)
      (fun _ => False) (fun _ => False) (fun _ => False) (fun q _ => q = .new o)) : FnOk P w K mg base CX0 (k + 1) fa fd ps (SpG K (PN f)) :=
  Fn.ofG F S (fun as r as' ⟨ds, d, h1, _, _, h4⟩ => by rw [h1, List.length_map]; exact hn ds d h4) fun cdv A outer s H E hr => by
    obtain ⟨t, h1, h2⟩ := body cdv A outer s H E hr
    refine ⟨t, h1, fun as r as' ⟨ds, d, e1, e2, e3, hf⟩ => ⟨[], fun i o h => absurd h (by rw [e1]; exact vals_noOwn), ?_⟩⟩
    subst e1 e2 e3
    have held : ∀ e, Held (ds.map AV.val) (ds.map AV.val) e := fun e i o h => absurd h vals_noOwn
    have em : (ds.map AV.val).map AV.ev = ds.map EV.val := by rw [List.map_map]; rfl
    rw [em]
    exact x_mono (h2 ds d hf) (fun e h => h.elim) (fun _ h => h) (fun _ h => h) fun q e h => ⟨h, held e⟩
theorem Fn.ofX {f : List D → Ret → Prop} (F : Fun K x qn st fa fd) (S : FnScope N ps (defScope st)) (hn : ∀ ds r, f ds r → ds.length = ps.length)
    (body : ∀ (cdv : Value) (A : Around) (outer : List PySem.Env) (s : Shared) (H : Hp) (E : XK), Room k (A.deeper (PyProof.Rows.envOfC qn (defScope st) s.heap.objs.size fa cdv)) →
      ∃ t, PSs (cxOf (L2.CX P w) P w K mg base N qn (defScope st) fa cdv A outer s H E) (defBody st) t ∧ ∀ ds r, f ds r → Exec K [] (fun cls d _ H => E cls d H) t (ds.map EV.val ++ List.replicate (N.length - ps.length) .any)
      (fun _ => r = .val .non) (fun _ => False) (fun _ => False) (fun q _ => q = r)) : FnOk P w K mg base (L2.CX P w) (k + 1) fa fd ps (SpG K (PR f)) :=
  F.okX S (fun vs H Q E h => spG_len (fun as r as' ⟨ds, h1, _, h4⟩ => by rw [h1, List.length_map]; exact hn ds r h4) h) (fun cdv A outer s H vs Q E hr h => by
    obtain ⟨t, h1, h2⟩ := body cdv A outer s H E hr
    have hpl : ps.length ≤ N.length := by have := congrArg List.length S.pre; rw [List.length_take] at this; omega
    refine ⟨t, h1, run_SpG h (fun as r as' ⟨ds, h1, _, h4⟩ => ⟨by rw [h1, List.length_map]; exact hn ds r h4, hpl⟩) fun as r as' ⟨ds, e1, e2, hf⟩ => ⟨[], fun i o h => absurd h (by rw [e1]; exact vals_noOwn), ?_⟩⟩
    subst e1 e2
    have held : ∀ e, Held (ds.map AV.val) (ds.map AV.val) e := fun e i o h => absurd h vals_noOwn
    have em : (ds.map AV.val).map AV.ev = ds.map EV.val := by rw [List.map_map]; rfl
    rw [em]
    exact x_mono (h2 ds r hf) (fun e h => ⟨h, held e⟩) (fun _ h => h) (fun _ h => h) fun q e h => ⟨h, held e⟩)
theorem Dx.of {sp : Sp} (h : FnOk P w K mg base (L2.CX P w) k fa fd ps sp) (F : Fun K x qn st fa fd) (hm : mg x = some (.ref fa)) (b : Binds K fd ps []) : Dx P w K mg base k x sp := ⟨fa, fd, ps, h, hm, F.kp, b⟩
theorem Df.of {sp : Sp} (h : FnOk P w K mg base CX0 k fa fd ps sp) (F : Fun K x qn st fa fd) (hm : mg x = some (.ref fa)) (b : Binds K fd ps []) : Df P w K mg base k x sp := ⟨fa, fd, ps, h, hm, F.kp, b⟩
end
end DL

namespace DL
open PySem L2
/-! ### == of data, by a plain function -/
mutual
def pl : Nat → D → Bool
  | _, .non => true
  | _, .bl _ => true
  | _, .int _ => true
  | _, .str x => PyData.canLay0 (.str x)
  | n + 1, .tup l => plL n l
  | n + 1, .lst l => plL n l
  | _, _ => false
def plL : Nat → List D → Bool
  | _, [] => true
  | n, d :: r => pl n d && plL n r
end
mutual
theorem pl_py : ∀ {n : Nat} {d : D}, pl n d = true → ∃ p, py d = some p ∧ p.canLay0 = true ∧ p.depth ≤ n + 1
  | n, .non, _ => ⟨.none, by unfold py; rfl, rfl, by simp [PyData.depth]⟩
  | n, .bl b, _ => ⟨.bool b, by unfold py; rfl, rfl, by simp [PyData.depth]⟩
  | n, .int b, _ => ⟨.int b, by unfold py; rfl, rfl, by simp [PyData.depth]⟩
  | n, .str x, h => ⟨.str x, by unfold py; rfl, by unfold pl at h; exact h, by simp [PyData.depth]⟩
  | 0, .tup l, h => by unfold pl at h; cases h
  | 0, .lst l, h => by unfold pl at h; cases h
  | n + 1, .tup l, h => by
    unfold pl at h
    obtain ⟨ps, h1, h2, h3⟩ := plL_py h
    exact ⟨.tuple ps, by unfold py; rw [h1]; rfl, by unfold PyData.canLay0; exact h2, by simp [PyData.depth]; omega⟩
  | n + 1, .lst l, h => by
    unfold pl at h
    obtain ⟨ps, h1, h2, h3⟩ := plL_py h
    exact ⟨.list ps, by unfold py; rw [h1]; rfl, by unfold PyData.canLay0; exact h2, by simp [PyData.depth]; omega⟩
  | 0, .ty _, h => by unfold pl at h; cases h
  | 0, .ref _, h => by unfold pl at h; cases h
  | 0, .scr _, h => by unfold pl at h; cases h
  | 0, .dic _, h => by unfold pl at h; cases h
  | 0, .dit _, h => by unfold pl at h; cases h
  | 0, .obj _ _, h => by unfold pl at h; cases h
  | 0, .exc _, h => by unfold pl at h; cases h
  | _ + 1, .ty _, h => by unfold pl at h; cases h
  | _ + 1, .ref _, h => by unfold pl at h; cases h
  | _ + 1, .scr _, h => by unfold pl at h; cases h
  | _ + 1, .dic _, h => by unfold pl at h; cases h
  | _ + 1, .dit _, h => by unfold pl at h; cases h
  | _ + 1, .obj _ _, h => by unfold pl at h; cases h
  | _ + 1, .exc _, h => by unfold pl at h; cases h
theorem plL_py : ∀ {n : Nat} {l : List D}, plL n l = true → ∃ ps, pys l = some ps ∧ PyData.canLayAll0 ps = true ∧ PyData.depthAll ps ≤ n + 1
  | n, [], _ => ⟨[], by unfold pys; rfl, rfl, by simp [PyData.depthAll]⟩
  | n, d :: r, h => by
    unfold plL at h
    rw [Bool.and_eq_true] at h
    obtain ⟨p, h1, h2, h3⟩ := pl_py h.1
    obtain ⟨ps, h4, h5, h6⟩ := plL_py h.2
    exact ⟨p :: ps, by unfold pys; rw [h1, h4], by unfold PyData.canLayAll0; rw [h2, h5]; rfl, by simp [PyData.depthAll]; omega⟩
end
/-- x == y of data -/
def eqB (d e : D) : Bool := match py d, py e with
  | some p, some q => PyData.eqv p q
  | _, _ => false
def eqL (l m : List D) : Bool := match pys l, pys m with
  | some p, some q => PyData.eqvAll p q
  | _, _ => false
theorem eqD_pl {d e : D} (h1 : pl 60 d = true) (h2 : pl 60 e = true) : eqD d e = some (eqB d e) := by
  obtain ⟨p, a1, a2, a3⟩ := pl_py h1
  obtain ⟨q, b1, b2, b3⟩ := pl_py h2
  unfold eqD eqB
  rw [a1, b1]
  have s1 : SeqAt.shaped p = true := by unfold SeqAt.shaped; rw [a2, Bool.true_and]; exact decide_eq_true (by omega)
  have s2 : SeqAt.shaped q = true := by unfold SeqAt.shaped; rw [b2, Bool.true_and]; exact decide_eq_true (by omega)
  simp only [s1, s2, Bool.and_self, if_true]
theorem eqB_lst {l m : List D} : eqB (.lst l) (.lst m) = eqL l m := by
  unfold eqB eqL py
  cases pys l <;> cases pys m <;> simp [PyData.eqv]
theorem eqB_tup {l m : List D} : eqB (.tup l) (.tup m) = eqL l m := by
  unfold eqB eqL py
  cases pys l <;> cases pys m <;> simp [PyData.eqv]
theorem eqL_nil : eqL [] [] = true := by unfold eqL pys; simp [PyData.eqvAll]
theorem eqL_nc {x : D} {l : List D} : eqL [] (x :: l) = false := by
  unfold eqL pys
  cases py x <;> cases pys l <;> simp [PyData.eqvAll]
theorem eqL_cn {x : D} {l : List D} : eqL (x :: l) [] = false := by
  unfold eqL pys
  cases py x <;> cases pys l <;> simp [PyData.eqvAll]
theorem eqL_cc {x y : D} {l m : List D} : eqL (x :: l) (y :: m) = (eqB x y && eqL l m) := by
  have e1 : ∀ x : D, ∀ l, pys (x :: l) = match py x, pys l with | some a, some b => some (a :: b) | _, _ => none := fun x l => by
    rw [pys]
    try (cases py x <;> cases pys l <;> rfl)
  unfold eqL eqB
  rw [e1 x l, e1 y m]
  cases py x <;> cases py y <;> cases pys l <;> cases pys m <;> simp [PyData.eqvAll]
theorem eqB_int {i j : Int} : eqB (.int i) (.int j) = decide (i = j) := by unfold eqB py; simp [PyData.eqv]; rfl
theorem eqB_bl {i j : Bool} : eqB (.bl i) (.bl j) = (i == j) := by unfold eqB py; simp [PyData.eqv]
theorem eqB_str {i j : Str} : eqB (.str i) (.str j) = (i == j) := by unfold eqB py; simp [PyData.eqv]
theorem eqB_non : eqB .non .non = true := by unfold eqB py; simp [PyData.eqv]
theorem eqL_ints : ∀ {xs ys : List Int}, eqL (xs.map D.int) (ys.map D.int) = decide (xs = ys)
  | [], [] => by rw [List.map_nil, eqL_nil]; rfl
  | [], y :: ys => by rw [List.map_nil, List.map_cons, eqL_nc]; simp
  | x :: xs, [] => by rw [List.map_nil, List.map_cons, eqL_cn]; simp
  | x :: xs, y :: ys => by
    rw [List.map_cons, List.map_cons, eqL_cc, eqB_int, eqL_ints]
    by_cases h : x = y <;> by_cases g : xs = ys <;> simp [h, g]
theorem eqL_n {l : List D} : eqL l [] = l.isEmpty := by
  cases l with
  | nil => exact eqL_nil
  | cons x l => rw [eqL_cn]; rfl
theorem plL_ints {n : Nat} : ∀ {xs : List Int}, plL n (xs.map D.int) = true
  | [] => by unfold plL; rfl
  | x :: xs => by
    rw [List.map_cons]
    unfold plL
    rw [plL_ints]
    cases n <;> simp [pl]
theorem pl_lst_ints {xs : List Int} : pl 60 (.lst (xs.map D.int)) = true := by unfold pl; exact plL_ints
theorem pl_tup_ints {xs : List Int} : pl 60 (.tup (xs.map D.int)) = true := by unfold pl; exact plL_ints
theorem pl_nil : pl 60 (.lst []) = true := by unfold pl plL; rfl
theorem pl_tnil : pl 60 (.tup []) = true := by unfold pl plL; rfl
theorem eqD_ints {xs ys : List Int} : eqD (.lst (xs.map D.int)) (.lst (ys.map D.int)) = some (decide (xs = ys)) := by rw [eqD_pl pl_lst_ints pl_lst_ints, eqB_lst, eqL_ints]
theorem eqD_tints {xs ys : List Int} : eqD (.tup (xs.map D.int)) (.tup (ys.map D.int)) = some (decide (xs = ys)) := by rw [eqD_pl pl_tup_ints pl_tup_ints, eqB_tup, eqL_ints]
theorem eqD_nil {l : List D} (h : pl 60 (.lst l) = true) : eqD (.lst l) (.lst []) = some l.isEmpty := by rw [eqD_pl h pl_nil, eqB_lst, eqL_n]
theorem eqD_tnil {l : List D} (h : pl 60 (.tup l) = true) : eqD (.tup l) (.tup []) = some l.isEmpty := by rw [eqD_pl h pl_tnil, eqB_tup, eqL_n]
theorem pl_mono : ∀ {n : Nat} {d : D}, pl n d = true → pl (n + 1) d = true := by
  have key : ∀ n, (∀ d, pl n d = true → pl (n + 1) d = true) ∧ ∀ l, plL n l = true → plL (n + 1) l = true := fun n => by
    induction n with
    | zero =>
      have a : ∀ d, pl 0 d = true → pl 1 d = true := fun d h => by cases d <;> first | (unfold pl at h; cases h; done) | (unfold pl at h ⊢; exact h)
      refine ⟨a, fun l => ?_⟩
      induction l with
      | nil => intro _; unfold plL; rfl
      | cons x l ih =>
        intro h
        unfold plL at h ⊢
        rw [Bool.and_eq_true] at h ⊢
        exact ⟨a _ h.1, ih h.2⟩
    | succ n ih =>
      have a : ∀ d, pl (n + 1) d = true → pl (n + 1 + 1) d = true := fun d h => by
        cases d <;> first | (unfold pl at h; cases h; done) | (unfold pl at h ⊢; exact h) | (unfold pl at h ⊢; exact ih.2 _ h)
      refine ⟨a, fun l => ?_⟩
      induction l with
      | nil => intro _; unfold plL; rfl
      | cons x l ih =>
        intro h
        unfold plL at h ⊢
        rw [Bool.and_eq_true] at h ⊢
        exact ⟨a _ h.1, ih h.2⟩
  intro n d
  exact (key n).1 d
/-! ### items -/
theorem atI_of {α : Type} {l : List α} {i : Int} {x : α} (h0 : 0 ≤ i) (h : l[i.toNat]? = some x) : atI l i = some x := by
  have e : i = ((i.toNat : Nat) : Int) := by omega
  rw [e]
  exact atI_nat h
theorem atI_lit {l : List D} {i : Int} (h0 : 0 ≤ i) (h1 : i < (l.length : Int)) : atI l i = some (l.getD i.toNat .non) := by
  refine atI_of h0 ?_
  have h : i.toNat < l.length := by omega
  rw [List.getElem?_eq_getElem h, List.getD_eq_getElem?_getD, List.getElem?_eq_getElem h]
  rfl
theorem atI_ints {l : List Int} {i : Int} (h0 : 0 ≤ i) (h1 : i < (l.length : Int)) : atI (l.map D.int) i = some (.int (l.getD i.toNat 0)) := by
  refine atI_of h0 ?_
  have h : i.toNat < l.length := by omega
  rw [List.getElem?_map, List.getElem?_eq_getElem h, List.getD_eq_getElem?_getD, List.getElem?_eq_getElem h]
  rfl
theorem ixN_of {n : Nat} {i : Int} (h0 : 0 ≤ i) (h1 : i < (n : Int)) : ixN n i = some i.toNat := by
  unfold ixN
  rw [if_pos h0, if_pos h1]
/-! ### comprehensions over one name, the slots left as they are -/
theorem back_self {e1 : Env} {j : Nat} {x : EV} : back [j] 0 e1 (e1.set j x) = e1 := by
  apply List.ext_getElem?
  intro i
  rw [back_get (by simp), Nat.zero_add]
  by_cases h : i = j
  · subst h; simp
  · rw [if_neg (by simpa using h), List.getElem?_set_ne (Ne.symm h)]
section
variable {K : PySem.W.Frag} {te : TE} {t : TT} {env e1 : Env} {wi : TI} {j : Nat}
theorem en_lc1 {α : Type} {xs : List α} {g0 : α → D} {p : α → Bool} {f : α → D} (hi : EvI K wi env (xs.map g0) e1) (hn : ∀ o, e1[j]? ≠ some (.own o)) (hz : xs.length ≤ sizeLine)
    (ht : ∀ x, x ∈ xs → EvT K t (e1.set j (.val (g0 x))) (p x) (e1.set j (.val (g0 x)))) (he : ∀ x, x ∈ xs → p x = true → Ev K te (e1.set j (.val (g0 x))) (.val (f x)) (e1.set j (.val (g0 x)))) : EvN K (tLc wi (gName j) t te [j]) env (.lst ((xs.filter p).map f)) e1 := by
  have ss : ∀ d, (wipeE e1 [j]).set j (.val d) = e1.set j (.val d) := fun d => by show (e1.set j .any).set j _ = _; rw [List.set_set]
  refine en_lcp (vs := [j]) (js := [j]) xs g0 p f hi (fun i o h => by simp at h; subst h; exact hn o) hz (fun _ h => h) (fun x => e1.set j (.val (g0 x))) (fun x _ => ?_) (fun x _ i o h => ?_) (fun x _ => back_self) ht he
  · rw [← ss]; exact eg_name
  · by_cases q : i = j
    · subst q
      rw [List.getElem?_set] at h
      split at h
      · split at h <;> cases h
      · rename_i z; exact absurd rfl z
    · rw [List.getElem?_set_ne (Ne.symm q)] at h
      exact ⟨o, by show (e1.set j .any)[i]? = _; rw [List.getElem?_set_ne (Ne.symm q)]; exact h⟩
theorem en_lc0 {α : Type} {xs : List α} {g0 : α → D} {f : α → D} (hi : EvI K wi env (xs.map g0) e1) (hn : ∀ o, e1[j]? ≠ some (.own o)) (hz : xs.length ≤ sizeLine)
    (he : ∀ x, x ∈ xs → Ev K te (e1.set j (.val (g0 x))) (.val (f x)) (e1.set j (.val (g0 x)))) : EvN K (tLc wi (gName j) tYes te [j]) env (.lst (xs.map f)) e1 := by
  have h := en_lc1 (t := tYes) (p := fun _ => true) hi hn hz (fun x _ => et_yes) (fun x hx _ => he x hx)
  have e : xs.filter (fun _ => true) = xs := by simp
  rw [e] at h
  exact h
/-- .. over data as they are -/
theorem en_lc1d {xs : List D} {p : D → Bool} {f : D → D} (hi : EvI K wi env xs e1) (hn : ∀ o, e1[j]? ≠ some (.own o)) (hz : xs.length ≤ sizeLine)
    (ht : ∀ x, x ∈ xs → EvT K t (e1.set j (.val x)) (p x) (e1.set j (.val x))) (he : ∀ x, x ∈ xs → p x = true → Ev K te (e1.set j (.val x)) (.val (f x)) (e1.set j (.val x))) : EvN K (tLc wi (gName j) t te [j]) env (.lst ((xs.filter p).map f)) e1 :=
  en_lc1 (g0 := fun d => d) (by rw [List.map_id']; exact hi) hn hz ht he
theorem en_lc0d {xs : List D} {f : D → D} (hi : EvI K wi env xs e1) (hn : ∀ o, e1[j]? ≠ some (.own o)) (hz : xs.length ≤ sizeLine)
    (he : ∀ x, x ∈ xs → Ev K te (e1.set j (.val x)) (.val (f x)) (e1.set j (.val x))) : EvN K (tLc wi (gName j) tYes te [j]) env (.lst (xs.map f)) e1 :=
  en_lc0 (g0 := fun d => d) (by rw [List.map_id']; exact hi) hn hz he
/-- .. over a range -/
theorem en_lc0r {lo : Int} {n : Nat} {f : Nat → D} (hi : EvI K wi env (rng lo n) e1) (hn : ∀ o, e1[j]? ≠ some (.own o)) (hz : n ≤ sizeLine)
    (he : ∀ i, i < n → Ev K te (e1.set j (.val (.int (lo + (i : Nat))))) (.val (f i)) (e1.set j (.val (.int (lo + (i : Nat)))))) : EvN K (tLc wi (gName j) tYes te [j]) env (.lst ((List.range n).map f)) e1 :=
  en_lc0 (g0 := fun i : Nat => .int (lo + (i : Nat))) hi hn (by simpa using hz) (fun i h => he i (List.mem_range.mp h))
theorem ce_allm {α : Type} {e : Env} {r : Res} {xs : List α} {g : α → Bool} (q : RdL e r (xs.map fun x => D.bl (g x))) : CbE K (rAll K) e [r] (.val (.bl (xs.all g))) := by
  have h := ce_all (K := K) (e := e) (r := r) (bs := xs.map g) (by rw [List.map_map]; exact q)
  rw [List.all_map] at h
  exact h
theorem ce_anym {α : Type} {e : Env} {r : Res} {xs : List α} {g : α → Bool} (q : RdL e r (xs.map fun x => D.bl (g x))) : CbE K (rAny K) e [r] (.val (.bl (xs.any g))) := by
  have h := ce_any (K := K) (e := e) (r := r) (bs := xs.map g) (by rw [List.map_map]; exact q)
  rw [List.any_map] at h
  exact h
end
/-! ### isinstance of data -/
theorem isd_non_int  : isD "int" .non = some false := by show kitB "NoneType" "int" = some false; decide +kernel
theorem isd_non_bool  : isD "bool" .non = some false := by show kitB "NoneType" "bool" = some false; decide +kernel
theorem isd_non_str  : isD "str" .non = some false := by show kitB "NoneType" "str" = some false; decide +kernel
theorem isd_non_tuple  : isD "tuple" .non = some false := by show kitB "NoneType" "tuple" = some false; decide +kernel
theorem isd_non_list  : isD "list" .non = some false := by show kitB "NoneType" "list" = some false; decide +kernel
theorem isd_non_dict  : isD "dict" .non = some false := by show kitB "NoneType" "dict" = some false; decide +kernel
theorem isd_bl_int {x : Bool} : isD "int" (.bl x) = some true := by show kitB "bool" "int" = some true; decide +kernel
theorem isd_bl_bool {x : Bool} : isD "bool" (.bl x) = some true := by show kitB "bool" "bool" = some true; decide +kernel
theorem isd_bl_str {x : Bool} : isD "str" (.bl x) = some false := by show kitB "bool" "str" = some false; decide +kernel
theorem isd_bl_tuple {x : Bool} : isD "tuple" (.bl x) = some false := by show kitB "bool" "tuple" = some false; decide +kernel
theorem isd_bl_list {x : Bool} : isD "list" (.bl x) = some false := by show kitB "bool" "list" = some false; decide +kernel
theorem isd_bl_dict {x : Bool} : isD "dict" (.bl x) = some false := by show kitB "bool" "dict" = some false; decide +kernel
theorem isd_int_int {x : Int} : isD "int" (.int x) = some true := by show kitB "int" "int" = some true; decide +kernel
theorem isd_int_bool {x : Int} : isD "bool" (.int x) = some false := by show kitB "int" "bool" = some false; decide +kernel
theorem isd_int_str {x : Int} : isD "str" (.int x) = some false := by show kitB "int" "str" = some false; decide +kernel
theorem isd_int_tuple {x : Int} : isD "tuple" (.int x) = some false := by show kitB "int" "tuple" = some false; decide +kernel
theorem isd_int_list {x : Int} : isD "list" (.int x) = some false := by show kitB "int" "list" = some false; decide +kernel
theorem isd_int_dict {x : Int} : isD "dict" (.int x) = some false := by show kitB "int" "dict" = some false; decide +kernel
theorem isd_str_int {x : Str} : isD "int" (.str x) = some false := by show kitB "str" "int" = some false; decide +kernel
theorem isd_str_bool {x : Str} : isD "bool" (.str x) = some false := by show kitB "str" "bool" = some false; decide +kernel
theorem isd_str_str {x : Str} : isD "str" (.str x) = some true := by show kitB "str" "str" = some true; decide +kernel
theorem isd_str_tuple {x : Str} : isD "tuple" (.str x) = some false := by show kitB "str" "tuple" = some false; decide +kernel
theorem isd_str_list {x : Str} : isD "list" (.str x) = some false := by show kitB "str" "list" = some false; decide +kernel
theorem isd_str_dict {x : Str} : isD "dict" (.str x) = some false := by show kitB "str" "dict" = some false; decide +kernel
theorem isd_tup_int {x : List D} : isD "int" (.tup x) = some false := by show kitB "tuple" "int" = some false; decide +kernel
theorem isd_tup_bool {x : List D} : isD "bool" (.tup x) = some false := by show kitB "tuple" "bool" = some false; decide +kernel
theorem isd_tup_str {x : List D} : isD "str" (.tup x) = some false := by show kitB "tuple" "str" = some false; decide +kernel
theorem isd_tup_tuple {x : List D} : isD "tuple" (.tup x) = some true := by show kitB "tuple" "tuple" = some true; decide +kernel
theorem isd_tup_list {x : List D} : isD "list" (.tup x) = some false := by show kitB "tuple" "list" = some false; decide +kernel
theorem isd_tup_dict {x : List D} : isD "dict" (.tup x) = some false := by show kitB "tuple" "dict" = some false; decide +kernel
theorem isd_lst_int {x : List D} : isD "int" (.lst x) = some false := by show kitB "list" "int" = some false; decide +kernel
theorem isd_lst_bool {x : List D} : isD "bool" (.lst x) = some false := by show kitB "list" "bool" = some false; decide +kernel
theorem isd_lst_str {x : List D} : isD "str" (.lst x) = some false := by show kitB "list" "str" = some false; decide +kernel
theorem isd_lst_tuple {x : List D} : isD "tuple" (.lst x) = some false := by show kitB "list" "tuple" = some false; decide +kernel
theorem isd_lst_list {x : List D} : isD "list" (.lst x) = some true := by show kitB "list" "list" = some true; decide +kernel
theorem isd_lst_dict {x : List D} : isD "dict" (.lst x) = some false := by show kitB "list" "dict" = some false; decide +kernel
theorem isd_dic_int {x : List (Key × D)} : isD "int" (.dic x) = some false := by show kitB "dict" "int" = some false; decide +kernel
theorem isd_dic_bool {x : List (Key × D)} : isD "bool" (.dic x) = some false := by show kitB "dict" "bool" = some false; decide +kernel
theorem isd_dic_str {x : List (Key × D)} : isD "str" (.dic x) = some false := by show kitB "dict" "str" = some false; decide +kernel
theorem isd_dic_tuple {x : List (Key × D)} : isD "tuple" (.dic x) = some false := by show kitB "dict" "tuple" = some false; decide +kernel
theorem isd_dic_list {x : List (Key × D)} : isD "list" (.dic x) = some false := by show kitB "dict" "list" = some false; decide +kernel
theorem isd_dic_dict {x : List (Key × D)} : isD "dict" (.dic x) = some true := by show kitB "dict" "dict" = some true; decide +kernel
theorem isd_dit_int {x : List (List Key × D)} : isD "int" (.dit x) = some false := by show kitB "dict" "int" = some false; decide +kernel
theorem isd_dit_bool {x : List (List Key × D)} : isD "bool" (.dit x) = some false := by show kitB "dict" "bool" = some false; decide +kernel
theorem isd_dit_str {x : List (List Key × D)} : isD "str" (.dit x) = some false := by show kitB "dict" "str" = some false; decide +kernel
theorem isd_dit_tuple {x : List (List Key × D)} : isD "tuple" (.dit x) = some false := by show kitB "dict" "tuple" = some false; decide +kernel
theorem isd_dit_list {x : List (List Key × D)} : isD "list" (.dit x) = some false := by show kitB "dict" "list" = some false; decide +kernel
theorem isd_dit_dict {x : List (List Key × D)} : isD "dict" (.dit x) = some true := by show kitB "dict" "dict" = some true; decide +kernel
end DL

namespace DL
open PySem L2
section
variable {K : PySem.W.Frag} {pr : List Nat} {W : WX} {s : TS} {env e1 : Env} {i j : Nat} {N B C : Env → Prop} {R : Ret → Env → Prop} {wi : TI} {ds : List D}
/-- a for whose target is a name -/
theorem x_forN (I : Nat → Env → Prop) (hi : EvI K wi env ds e1) (h0 : I 0 e1)
    (hs : ∀ (i : Nat) (d : D) (env' : Env), ds[i]? = some d → I i env' → Exec K pr W s (env'.set j (.val d)) (I (i + 1)) N (I (i + 1)) R) (hd : ∀ env', I ds.length env' → N env') : Exec K pr W (tFor wi (gName j) s) env N B C R :=
  x_for (js := [j]) I hi h0 (fun i d env' h p => ⟨_, eg_name, hs i d env' h p⟩) hd
theorem en_dnew : EvN K tDNewK env (.dic []) env := fun b F oa σ H S Q k => by
  intro p hp
  obtain ⟨S4, gn, n⟩ := en_new (o := .dic []) (u := .dK []) S hp ⟨[], [], [], by rw [upd_same]; rfl, rfl, .nil, rfl⟩
  exact k _ _ _ S4 gn hp n
theorem mapD_int {α : Type} {xs : List α} {g : α → Int} : xs.map (fun x => D.int (g x)) = (xs.map g).map D.int := by rw [List.map_map]; rfl
/-- what holds behind a statement, said -/
theorem x_cut (M : Env → Prop) (h : Exec K pr W s env M B C R) (k : ∀ e, M e → N e) : Exec K pr W s env N B C R := x_mono h k (fun _ h => h) (fun _ h => h) fun _ _ h => h
theorem en_is {te : TE} {o o' : OB} (h : EvN K te env o e1) (q : o = o') : EvN K te env o' e1 := q ▸ h
theorem small_of {n : Int} (c : Int) (h0 : 0 ≤ n) (h1 : n ≤ 70) (hc : c = 1 ∨ c = 2 ∨ c = 3 ∨ c = 8) : Builtin.Range.small 0 n c = true := by
  have k1 : ∀ m : Nat, m < 71 → Builtin.Range.small 0 (m : Int) 1 = true := by decide
  have k2 : ∀ m : Nat, m < 71 → Builtin.Range.small 0 (m : Int) 2 = true := by decide
  have k3 : ∀ m : Nat, m < 71 → Builtin.Range.small 0 (m : Int) 3 = true := by decide
  have k8 : ∀ m : Nat, m < 71 → Builtin.Range.small 0 (m : Int) 8 = true := by decide
  have e : n = ((n.toNat : Nat) : Int) := by omega
  rw [e]
  rcases hc with h | h | h | h <;> subst h
  · exact k1 _ (by omega)
  · exact k2 _ (by omega)
  · exact k3 _ (by omega)
  · exact k8 _ (by omega)
theorem rg_of {n c : Int} (h : Builtin.Range.small 0 n c = true) (hc : 0 < c ∧ c < 1000) : RgC 0 n c (if 0 < n then (n - 1) / c + 1 else 0).toNat := by
  refine ⟨by omega, by omega, h, ?_⟩
  unfold Builtin.Range.rangeSize
  rw [if_pos (show c > 0 from hc.1)]
  by_cases q : 0 < n
  · rw [if_pos q, if_pos q]
    have : 0 ≤ (n - 1) / c := Int.ediv_nonneg (by omega) (by omega)
    rw [show n - 0 - 1 = n - 1 by omega]
    omega
  · rw [if_neg q, if_neg q]; rfl
/-- range(0, n, 3) for n to 70 -/
theorem rg3 {n : Int} (h0 : 0 ≤ n) (h1 : n ≤ 70) : RgC 0 n 3 (if 0 < n then (n - 1) / 3 + 1 else 0).toNat := rg_of (small_of 3 h0 h1 (by omega)) (by omega)
theorem pl_le {n m : Nat} {d : D} (h : pl n d = true) (l : n ≤ m) : pl m d = true := by
  induction l with
  | refl => exact h
  | step _ ih => exact pl_mono ih
theorem eqD_nil' {l : List D} {n : Nat} (h : plL n l = true) (hn : n < 60) : eqD (.lst l) (.lst []) = some l.isEmpty := eqD_nil (pl_le (n := n + 1) (by unfold pl; exact h) hn)
theorem plL_of {n : Nat} : ∀ {l : List D}, (∀ x, x ∈ l → pl n x = true) → plL n l = true
  | [], _ => by unfold plL; rfl
  | x :: l, h => by
    unfold plL
    rw [h x List.mem_cons_self, plL_of fun y hy => h y (List.mem_cons_of_mem _ hy)]
    rfl
theorem plL_mem {n : Nat} : ∀ {l : List D}, plL n l = true → ∀ x, x ∈ l → pl n x = true
  | [], _, _, hx => by cases hx
  | y :: l, h, x, hx => by
    unfold plL at h
    rw [Bool.and_eq_true] at h
    rcases List.mem_cons.mp hx with e | e
    · rw [e]; exact h.1
    · exact plL_mem h.2 x e
theorem getD_in {α : Type} {l : List α} {i : Nat} {d : α} (h : i < l.length) : l.getD i d ∈ l := by
  rw [List.getD_eq_getElem?_getD, List.getElem?_eq_getElem h]
  exact List.getElem_mem h
theorem log2_lt {n : Int} {k : Nat} (h0 : 0 < n) (h : n < 2 ^ k) (hk : k < 9000) : 0 < n ∧ n.natAbs.log2 < 9000 := by
  refine ⟨h0, ?_⟩
  have e : ((2 ^ k : Nat) : Int) = 2 ^ k := by simp
  have a : n.natAbs < 2 ^ k := by omega
  have := (Nat.log2_lt (n := n.natAbs) (k := k) (by omega)).mpr a
  omega
theorem sz_le {n : Nat} (h : n ≤ 100000) : n ≤ sizeLine := Nat.le_trans h (by decide)
theorem sz_lt' {n : Nat} (h : n < 100000) : n < sizeLine := Nat.lt_of_lt_of_le h (by decide)
theorem x_never (h : False) : Exec K pr W tNever env N B C R := h.elim
end
end DL

/-! ### methods of data by what their operands came to -/
namespace L2
open PySem PySem.Spec PyProof.Rows
/-- xs.count(y) of flat items -/
def rCntF (K : PySem.W.Frag) : V → List V → Hp → VK → Prop := fun x xs H Q => ∃ (p : Addr) (ys : List V) (y : V), x = .ref p ∧ xs = [y] ∧ SqL K H p ys ∧ flatV y = true ∧ ys.all flatV = true ∧ Q (.int (ys.countP fun z => eqV z y : Nat)) H
theorem count_eqU {x : V} : ∀ {xs : List V} {us : List Value}, Vals xs us → xs.all flatV = true → us.countP (eqU x) = xs.countP fun y => eqV y x
  | _, _, .nil, _ => rfl
  | y :: xs, u :: us, .cons r t, f => by
    rw [List.all_cons, Bool.and_eq_true] at f
    rw [List.countP_cons, List.countP_cons, eqU_of r f.1, count_eqU t f.2]
theorem mt_cntF {X : Cx} : MtR X "list.count" (rCntF X.K) := by
  intro pins s σ H x xs v us Q I rx rxs h
  obtain ⟨p, ys, y, rfl, rfl, hs, fy, fys, q⟩ := h
  cases rx
  obtain ⟨u, rfl, ru⟩ := rxs.one
  obtain ⟨its, rv, ⟨⟨cls, dd, data, sl⟩, n, ho, hc, hdn, hd⟩, hlen⟩ := I.list hs
  simp only at hc hd
  subst hc hd
  refine call_meets PySem.F.slot_list_count ⟨_, ho, rfl⟩ PySem.F.entry_list_count (PySem.F.args_list_count_2 _ _)
    (SeqAt.list_countAt p its.toArray n dd sl u (eqU y)) ⟨ho, fun u' hu' => mem_eqAt ru fy rv fys u' (by simpa using hu'), ?_⟩
  have ec : its.toArray.toList.countP (eqU y) = ys.countP fun z => eqV z y := count_eqU rv fys
  refine ⟨.int (ys.countP (fun z => eqV z y) : Nat), H, I.tok _, ⟨s.toks, ?_⟩, q⟩
  show Value.int ((its.toArray.toList.countP (eqU y) : Nat) : Int) s.toks = _
  rw [ec]
end L2
namespace DL
open PySem L2
section
variable {K : PySem.W.Frag} {te tb : TE} {ta : TA} {env e e1 e2 : Env} {r r' : Res} {rs : List Res} {d : D} {l : List D} {i j : Nat} {n : Int} {x y : Str}
/-- a method by what the object and the arguments came to -/
def MbE (K : PySem.W.Frag) (T : String) (rm : V → List V → Hp → VK → Prop) (e1 e : Env) (r : Res) (rs : List Res) (r' : Res) : Prop :=
  (∀ (b : Bs) (F : Hp) (oa : Nat → Addr) (σ : L2.St) (H : Hp) (x : V), Sig K b F oa σ H e1 → RR K F oa x r → tyV K T x H) ∧
  ∀ (b : Bs) (F : Hp) (oa : Nat → Addr) (σ : L2.St) (H : Hp) (x : V) (vs : List V), Sig K b F oa σ H e → RR K F oa x r → RRs K F oa vs rs → ∀ Q : VK,
    (∀ v F' H', Sig K b F' oa σ H' e → Stp oa e F H e F' H' → RR K F' oa v r' → Q v H') → rm x vs H Q
theorem ev_m {T : String} {rm : V → List V → Hp → VK → Prop} (ha : Ev K te env r e1) (hs : EvA K ta e1 rs e2) (h : MbE K T rm e1 e2 r rs r') : Ev K (tBM K T rm te ta) env r' e2 := fun b F oa σ H S Q k =>
  ha b F oa σ H S _ fun x F1 H1 S1 g1 q1 => ⟨h.1 b F1 oa σ H1 x S1 q1, hs b F1 oa σ H1 S1 _ fun vs F2 H2 S2 g2 q2 => h.2 b F2 oa σ H2 x vs S2 (q1.mono g2.ff) q2 Q fun v F3 H3 S3 g3 q3 => k v F3 H3 S3 ((g1.trans g2).trans g3) q3⟩
theorem ty_list (q : RdL e1 r l) : ∀ (b : Bs) (F : Hp) (oa : Nat → Addr) (σ : L2.St) (H : Hp) (x : V), Sig K b F oa σ H e1 → RR K F oa x r → tyV K "list" x H := fun b F oa σ H x S h => by
  obtain ⟨a, vs, rfl, s, p⟩ := q.g S h
  exact .inl ⟨rfl, vs, s⟩
theorem flat_bools : ∀ bs : List Bool, (bs.map V.bl).all flatV = true
  | [] => rfl
  | b :: bs => by rw [List.map_cons, List.all_cons, flat_bools bs]; rfl
theorem cnt_bools {c : Bool} : ∀ bs : List Bool, (bs.map V.bl).countP (fun z => eqV z (.bl c)) = bs.count c
  | [] => rfl
  | b :: bs => by
    rw [List.map_cons, List.countP_cons, cnt_bools bs, List.count_cons]
    rfl
/-- bs.count(c) -/
theorem me_cnt {bs : List Bool} {c : Bool} (q1 : RdL e1 r (bs.map D.bl)) (q : RdL e r (bs.map D.bl)) : MbE K "list" (rCntF K) e1 e r [.val (.bl c)] (.val (.int (bs.count c : Nat))) := ⟨ty_list q1, fun b F oa σ H x vs S h hs Q k => by
  match vs, hs with
  | [v], hs =>
    cases hs.1
    obtain ⟨a, ws, rfl, s, p⟩ := q.g S h
    have e := p.bools
    subst e
    refine ⟨a, bs.map V.bl, .bl c, rfl, rfl, s, rfl, flat_bools bs, ?_⟩
    rw [cnt_bools]
    exact k _ F H S Stp.refl (.int _)⟩
/-- bs.index(True) -/
theorem me_idx {bs : List Bool} {j : Nat} (q1 : RdL e1 r (bs.map D.bl)) (q : RdL e r (bs.map D.bl)) (hj : bs[j]? = some true) (hm : ∀ m, m < j → bs[m]? = some false) : MbE K "list" (rIndex K) e1 e r [.val (.bl true)] (.val (.int (j : Nat))) := ⟨ty_list q1, fun b F oa σ H x vs S h hs Q k => by
  match vs, hs with
  | [v], hs =>
    cases hs.1
    obtain ⟨a, ws, rfl, s, p⟩ := q.g S h
    have e := p.bools
    subst e
    refine ⟨a, bs.map V.bl, .bl true, j, .bl true, rfl, rfl, s, rfl, flat_bools bs, by rw [List.getElem?_map, hj]; rfl, rfl, fun m z' h1 h2 => ?_, k _ F H S Stp.refl (.int _)⟩
    rw [List.getElem?_map, hm m h1] at h2
    cases h2
    rfl⟩
/-- a, b, .. = xs, a list -/
theorem eg_lst {gs : TGs} {js : List Nat} {m : Nat} (h : EvGl K gs js l env e1) (hn : l.length = m) : EvGs K (gLst K m gs) js (.lst l) env e1 := fun b F oa σ H v S p Q k => by
  cases p with
  | lst s p => exact ⟨_, _, rfl, .inl (.inl (S.g.fh _ _ s)), by rw [p.length]; exact hn, h b F oa σ H _ S p Q k⟩
/-- repr of a small int -/
def rReprI : List V → Hp → VK → Prop := fun xs H Q => ∃ i, xs = [V.int i] ∧ i.natAbs.log2 < 1920 ∧ Q (.str (toString i)) H
theorem ce_repr (h : n.natAbs.log2 < 1920) : CbE K rReprI e [.val (.int n)] (.val (.str (toString n))) := fun b F oa σ H vs S q Q k => by
  match vs, q with
  | [v], q => cases q.1; exact ⟨n, rfl, h, k _ F H S Stp.refl (.str _)⟩
theorem call_reprI {X : Cx} : CallR X (.builtin "repr") rReprI := SkE.call_repr_int
end
end DL

namespace DL
open PySem L2
/-! ### more statements and operators -/
def ipAddU : TIp := fun x y H Q => ipI (fun i j => i + j) x y H Q ∨ rExt2 x y H Q
theorem ip_addU {X : Cx} : PIp X .Add ipAddU := fun pins s σ H x y v u Q I rx ry h => by
  rcases h with h | h
  · exact ip_add pins s σ H x y v u Q I rx ry h
  · exact iop_ext pins s σ H x y v u Q I rx ry h
section
variable {K : PySem.W.Frag} {pr : List Nat} {W : WX} {te ta tb : TE} {env e1 e2 e : Env} {r r1 r2 : Res} {i j : Nat} {l m : List D} {N B C : Env → Prop} {R : Ret → Env → Prop} {n k : Int} {d d1 d2 : D} {c : Bool}
/-- x += e, on ints -/
theorem x_augA (hx : env[i]? = some (.val (.int n))) (h : Ev K te env (.val (.int k)) e1) (kk : N (e1.set i (.val (.int (n + k))))) : Exec K pr W (tAug i te ipAddU) env N B C R := fun b F oa σ H D hp S st => by
  obtain ⟨v, h1, h2⟩ := S.val i _ hx
  cases h2
  exact ⟨_, h1, h b F oa σ H S _ fun w F1 H1 S1 g1 q1 => by cases q1; exact .inl ⟨n, k, rfl, rfl, st.nx _ F1 oa _ H1 kk (S1.set (.int _)) g1.ff⟩⟩
/-- xs += e, xs a slot's list -/
theorem x_ext {l0 : List D} (hx : env[i]? = some (.own (.lst l0))) (h : Ev K te env r e1) (hi : e1[i]? = some (.own (.lst l))) (hr : Rd e1 r (.lst m)) (hz : l.length + m.length ≤ sizeLine) (kk : N (e1.set i (.own (.lst (l ++ m))))) : Exec K pr W (tAug i te ipAddU) env N B C R := fun b F oa σ H D hp S st => by
  obtain ⟨h1, _⟩ := S.own i _ hx
  refine ⟨_, h1, h b F oa σ H S _ fun w F1 H1 S1 g1 q1 => ?_⟩
  obtain ⟨x1, x2, x3, ws, x4, x5⟩ := S1.own i _ hi
  obtain ⟨a', zs, rfl, s', p'⟩ := hr.lst' S1 q1
  refine .inr ⟨oa i, a', ws, zs, rfl, rfl, x4, s', by rw [x5.length, p'.length]; exact hz, ?_⟩
  have S2 := S1.mut (o' := .lst (l ++ m)) hi rfl ⟨_, upd_same, x5.append p'⟩
  have e : σ.set i (some (.ref (oa i))) = σ := by
    obtain ⟨hl, he⟩ := List.getElem?_eq_some_iff.mp h1
    apply List.ext_getElem?
    intro k
    by_cases q : i = k
    · subst q; rw [List.getElem?_set_self hl, h1]
    · rw [List.getElem?_set_ne q]
  show D.nx (σ.set i (some (.ref (oa i)))) _
  rw [e]
  exact st.nx _ F1 oa _ _ kk S2 g1.ff
/-- a, b = (x, y) -/
theorem x_par {ts : TA} (h : EvA K ts env [.val d1, .val d2] e1) (k : N ((e1.set i (.val d1)).set j (.val d2))) : Exec K pr W (tPar i j ts) env N B C R := fun b F oa σ H D hp S st => by
  refine h b F oa σ H S _ fun vs F1 H1 S1 g1 q1 => ?_
  match vs, q1 with
  | [v, w], q1 => exact ⟨v, w, rfl, st.nx _ F1 oa _ H1 k ((S1.set q1.1).set q1.2.1) g1.ff⟩
/-- x.bit_length() -/
theorem ev_bits (h : Ev K te env (.val (.int n)) e1) : Ev K (tBits te) env (.val (.int (Builtin.Int.intBits n : Nat))) e1 := fun b F oa σ H S Q k =>
  h b F oa σ H S _ fun v F1 H1 S1 g1 q1 => by cases q1; exact ⟨n, rfl, k _ F1 H1 S1 g1 (.int _)⟩
theorem shl_lt {n : Int} {a b : Nat} (h0 : 0 ≤ n) (h : n < 2 ^ a) (hb : a + b ≤ 100000000) : CShl n (b : Int) := by
  refine shl_ok (n := a) ?_ (by omega)
  have e : ((2 ^ a : Nat) : Int) = 2 ^ a := by simp
  omega
end
end DL
namespace DL
open PySem L2
theorem small_up {a b c : Int} (ha : -(2 ^ 60) ≤ a) (ha' : a < 2 ^ 60) (hb : -(2 ^ 60) ≤ b) (hb' : b < 2 ^ 60) (hc : 0 < c) (hc' : c < 2 ^ 60) : Builtin.Range.small a b c = true := by
  unfold Builtin.Range.small Builtin.Range.rangeSize
  have q : ∀ x : Int, 0 ≤ x → 0 ≤ x / c ∧ x / c ≤ x := fun x h => ⟨Int.ediv_nonneg h (by omega), Int.ediv_le_self c h⟩
  simp only [show c > 0 from hc, if_true]
  by_cases h : a < b
  · rw [if_pos h]
    have := q (b - a - 1) (by omega)
    simp only [Builtin.Range.rangeFitsLong, Bool.and_eq_true, Bool.or_eq_true, decide_eq_true_eq, beq_iff_eq]
    omega
  · rw [if_neg h]
    simp only [Builtin.Range.rangeFitsLong, Bool.and_eq_true, Bool.or_eq_true, decide_eq_true_eq, beq_iff_eq]
    omega
theorem rg_up {a b c : Int} (ha : -(2 ^ 60) ≤ a) (ha' : a < 2 ^ 60) (hb : -(2 ^ 60) ≤ b) (hb' : b < 2 ^ 60) (hc : 0 < c) (hc' : c < 1000000) : RgC a b c (if a < b then (b - a - 1) / c + 1 else 0).toNat := by
  refine ⟨by omega, by omega, small_up ha ha' hb hb' hc (by omega), ?_⟩
  unfold Builtin.Range.rangeSize
  rw [if_pos (show c > 0 from hc)]
  by_cases q : a < b
  · rw [if_pos q]
    have : 0 ≤ (b - a - 1) / c := Int.ediv_nonneg (by omega) (by omega)
    omega
  · rw [if_neg q]; rfl
/-- range(0, m, c) for a multiple m of c -/
theorem rg_mul {c : Int} {n : Nat} (hc : 0 < c) (hc' : c < 1000000) (hn : n ≤ 1000000) : RgC 0 (n * c) c n := by
  have h1 : (n : Int) * c ≤ 1000000 * 1000000 := Int.mul_le_mul (by omega) (by omega) (by omega) (by omega)
  have h0 : 0 ≤ (n : Int) * c := Int.mul_nonneg (by omega) (by omega)
  have h := rg_up (a := 0) (b := (n : Int) * c) (c := c) (by decide) (by decide) (by omega) (by omega) hc hc'
  have e : (if (0 : Int) < (n : Int) * c then ((n : Int) * c - 0 - 1) / c + 1 else 0).toNat = n := by
    by_cases q : n = 0
    · subst q; simp
    · have hp : 0 < (n : Int) * c := Int.mul_pos (by omega) hc
      rw [if_pos hp]
      have e1 : (n : Int) * c - 0 - 1 = (c - 1) + (n - 1) * c := by rw [Int.sub_mul]; omega
      rw [e1, Int.add_mul_ediv_right _ _ (by omega), Int.ediv_eq_zero_of_lt (by omega) (by omega)]
      omega
  rw [e] at h
  exact h
theorem oe_notb {K : PySem.W.Frag} {e : Env} {c1 c2 : Bool} : OpE K rNotU e (.val (.bl c1)) (.val (.bl c2)) (.val (.bl (!decide (c1 = c2)))) := fun b F oa σ H v w S g1 g2 Q k => by
  cases g1; cases g2
  exact .inr ⟨c1, c2, rfl, rfl, k _ F H S Stp.refl (.bl _)⟩
end DL

/-! ### a tuple times any small number -/
namespace L2
open PySem PySem.Spec PyProof.Rows
theorem mulT_same (l : Addr) (items : Array Value) (n : Nat) (dd : Option Addr) (sl : Array (Option Value)) (x : Int) (u : Tok) (c0 : (decide (x < -(2 ^ 63)) || decide (x ≥ 2 ^ 63)) = false) (c1 : (items.isEmpty || x == 1) = true) :
    Meets (Builtin.«tuple.__mul__» ⟨[.ref l, .int x u], []⟩) (fun _ R s => s.heap.get? l = some { cls := .type "tuple", dict := dd, data := .seq items n, slots := sl } ∧ R (.ok (.ret (.ref l))) s) := .of_wp fun prog w A R s h => by
  obtain ⟨hp, g, d, tk, os⟩ := s
  obtain ⟨hl, h⟩ := h
  have g1 := AutoSeq1.idx_int
  wp_walk using wpAny_loadPart' hl
  repeat (first
    | (refine wpAny_ite_false (decide_eq_false (by rw [c0]; decide)) ?_; wp_walk using wpAny_loadPart' hl)
    | (refine wpAny_ite_true (decide_eq_true c1) ?_; wp_walk using wpAny_loadPart' hl))
  exact ⟨_, rfl, h⟩
theorem mulT_none (l : Addr) (items : Array Value) (n : Nat) (dd : Option Addr) (sl : Array (Option Value)) (x : Int) (u : Tok) (c0 : (decide (x < -(2 ^ 63)) || decide (x ≥ 2 ^ 63)) = false) (c1 : (items.isEmpty || x == 1) = false) (c2 : (decide (x ≤ 0) || items.isEmpty) = true) :
    Meets (Builtin.«tuple.__mul__» ⟨[.ref l, .int x u], []⟩) (fun _ R s => s.heap.get? l = some { cls := .type "tuple", dict := dd, data := .seq items n, slots := sl } ∧
      R (.ok (.ret (.ref s.heap.objs.size))) { s with heap := s.heap.push { cls := .type "tuple", data := .seq #[] }, toks := s.toks }) := .of_wp fun prog w A R s h => by
  obtain ⟨hp, g, d, tk, os⟩ := s
  obtain ⟨hl, h⟩ := h
  have g1 := AutoSeq1.idx_int
  wp_walk using wpAny_loadPart' hl
  repeat (first
    | (refine wpAny_ite_false (decide_eq_false (by rw [c0]; decide)) ?_; wp_walk using wpAny_loadPart' hl)
    | (refine wpAny_ite_false (decide_eq_false (by rw [c1]; decide)) ?_; wp_walk using wpAny_loadPart' hl)
    | (refine wpAny_ite_true (decide_eq_true c2) ?_; wp_walk using wpAny_loadPart' hl))
  exact ⟨_, rfl, h⟩
/-- a tuple times k, a new one: up to 4000000 items -/
theorem rep_new {X : Cx} {pins : List (Addr × Obj)} {s : Shared} {σ : L2.St} {H : Hp} {l : Addr} {k : Int} {t : Tok} {xs : List V} {Q : VK} (I : Inv X pins σ H s) (hT : SqT X.K H l xs) (hne : xs ≠ []) (h1 : 2 ≤ k) (h2 : k ≤ 4000) (hz : xs.length ≤ 1000)
    (q : ∀ p, H p = none → Q (.ref p) (upd H p (.tup (List.replicate k.toNat xs).flatten))) : wpAny (model X.prog X.w) X.A (binaryOp .Mult (.ref l) (.int k t)) (EP X pins σ Q) X.xe s := by
  obtain ⟨its, r, ⟨⟨_, dd, _, sl⟩, ho, rfl, n, rfl⟩, hs⟩ := I.tuple hT
  have le : its.length = xs.length := r.length.symm
  have size : its.toArray.size = xs.length := le
  have full : its.toArray.isEmpty = false := by
    cases its with
    | nil => exact absurd (List.eq_nil_of_length_eq_zero le.symm) hne
    | cons _ _ => rfl
  have most : k.toNat * xs.length ≤ 4000 * 1000 := Nat.mul_le_mul (by omega) hz
  have mosti : ((its.toArray.size : Nat) : Int) * k ≤ 4000000 := by
    have e : ((its.toArray.size : Nat) : Int) * k = ((k.toNat * xs.length : Nat) : Int) := by
      rw [size, Int.natCast_mul, Int.toNat_of_nonneg (by omega), Int.mul_comm]
    rw [e]; omega
  have c0 : (decide (k < -(2 ^ 63)) || decide (k ≥ 2 ^ 63)) = false := by simp; omega
  have c1 : (its.toArray.isEmpty || k == 1) = false := by rw [full]; simp; omega
  have c2 : (decide (k ≤ 0) || its.toArray.isEmpty) = false := by rw [full]; simp; omega
  have c4 : Builtin.Tuple.tupleTooMany (((its.toArray.size : Nat) : Int) * k) = false := by
    unfold Builtin.Tuple.tupleTooMany
    rw [sizeLine_eq]
    exact decide_eq_false (by omega)
  have fit : ∀ {α : Type} (ys : List α), ys.length = xs.length → (List.replicate k.toNat ys).flatten.length ≤ sizeLine := fun ys e => by
    rw [PyProof.Rows.lm_len_rep_flat, e, sizeLine_eq]; omega
  have mul := tuple_mulW l its.toArray n dd sl k t c0 c1 c2 (by omega) c4 (by rw [size_rep, List.size_toArray]; exact fit its le)
  rw [size_rep] at mul
  refine wpAny_binaryOp_repeat_ref (T := "tuple") (U := "int") (by decide) ⟨_, ho, rfl⟩ (fun s' => typeIs_int s' k t) noFill_tuple_mul F.fills_int_mul F.slot_int_rmul repeat_tuple F.slot_int_index.lookup
    (call_meets F.slot_int_rmul (typeIs_int s k t) F.entry_int_rmul (F.args_int_rmul_2 _ _) (int_rmul_tuple k t l its.toArray n dd sl)
      ⟨ho, rfl, ⟨_, ho, rfl⟩, call_meets F.slot_tuple_mul ⟨_, ho, rfl⟩ F.entry_tuple_mul (F.args_tuple_mul_2 _ _) mul ⟨ho, ?_⟩⟩)
  exact ⟨.ref s.heap.objs.size, _, I.laid (t' := s.toks) (o := .tup (List.replicate k.toNat xs).flatten) (fun b ob q => Heap.get?_push_of_some _ q) (Nat.le_refl _) ⟨fit xs rfl, _, r.rep k.toNat, IsTup.new _ _⟩, rfl, q _ (I.hok.fresh (Nat.le_refl _))⟩
/-- a tuple times any k to 100000: itself, or a new one -/
def rMulT (K : PySem.W.Frag) : R2 := fun x y H Q => ∃ l k xs, x = .ref l ∧ y = .int k ∧ SqT K H l xs ∧ k ≤ 4000 ∧ -1000 ≤ k ∧ xs.length ≤ 1000 ∧ (xs = [] → Q (.ref l) H) ∧ (k = 1 → Q (.ref l) H) ∧ (xs ≠ [] → k ≠ 1 → ∀ p, H p = none → Q (.ref p) (upd H p (.tup (List.replicate k.toNat xs).flatten)))
theorem op_mulT {X : Cx} : OpR X (binaryOp .Mult) (rMulT X.K) := by
  intro pins s σ H x y v u Q I rx ry h
  obtain ⟨l, k, xs, rfl, rfl, hT, h2, h1, hz, q0, q1, q2⟩ := h
  by_cases big : xs ≠ [] ∧ 2 ≤ k
  · cases rx
    obtain ⟨t, rfl⟩ := ry
    exact rep_new I hT big.1 big.2 h2 hz (q2 big.1 (by omega))
  · cases rx
    obtain ⟨t, rfl⟩ := ry
    obtain ⟨its, r, ⟨⟨cls, dd, data, sl⟩, ho, hc, n, hd⟩, hs⟩ := I.tuple hT
    simp only at hc hd
    subst hc hd
    have hle : its.length = xs.length := r.length.symm
    have c0 : (decide (k < -(2 ^ 63)) || decide (k ≥ 2 ^ 63)) = false := by
      rw [decide_eq_false (by omega), decide_eq_false (by omega)]; rfl
    by_cases one : xs = [] ∨ k = 1
    · have c1 : (its.toArray.isEmpty || k == 1) = true := by
        rcases one with e | e
        · have : its = [] := List.eq_nil_of_length_eq_zero (by rw [hle, e]; rfl)
          rw [this]; rfl
        · rw [e]; simp
      refine wpAny_binaryOp_repeat_ref (T := "tuple") (U := "int") (by decide) ⟨_, ho, rfl⟩ (fun s' => typeIs_int s' k t) noFill_tuple_mul F.fills_int_mul F.slot_int_rmul repeat_tuple F.slot_int_index.lookup
        (call_meets F.slot_int_rmul (typeIs_int s k t) F.entry_int_rmul (F.args_int_rmul_2 _ _) (int_rmul_tuple k t l its.toArray n dd sl)
          ⟨ho, rfl, ⟨_, ho, rfl⟩, call_meets F.slot_tuple_mul ⟨_, ho, rfl⟩ F.entry_tuple_mul (F.args_tuple_mul_2 _ _) (mulT_same l its.toArray n dd sl k t c0 c1) ⟨ho, ?_⟩⟩)
      refine ⟨.ref l, H, I, rfl, ?_⟩
      rcases one with e | e
      · exact q0 e
      · exact q1 e
    · have n1 : xs ≠ [] := fun e => one (.inl e)
      have n2 : k ≠ 1 := fun e => one (.inr e)
      have k0 : k ≤ 0 := by
        by_cases z : 2 ≤ k
        · exact absurd ⟨n1, z⟩ big
        · omega
      have hi : its.toArray.isEmpty = false := by
        cases its with
        | nil => exact absurd (List.eq_nil_of_length_eq_zero hle.symm) n1
        | cons a b => rfl
      have c1 : (its.toArray.isEmpty || k == 1) = false := by
        rw [hi, Bool.false_or]
        exact beq_eq_false_iff_ne.mpr n2
      have c2 : (decide (k ≤ 0) || its.toArray.isEmpty) = true := by rw [decide_eq_true k0]; rfl
      have e0 : k.toNat = 0 := by omega
      have q := q2 n1 n2
      rw [e0] at q
      refine wpAny_binaryOp_repeat_ref (T := "tuple") (U := "int") (by decide) ⟨_, ho, rfl⟩ (fun s' => typeIs_int s' k t) noFill_tuple_mul F.fills_int_mul F.slot_int_rmul repeat_tuple F.slot_int_index.lookup
        (call_meets F.slot_int_rmul (typeIs_int s k t) F.entry_int_rmul (F.args_int_rmul_2 _ _) (int_rmul_tuple k t l its.toArray n dd sl)
          ⟨ho, rfl, ⟨_, ho, rfl⟩, call_meets F.slot_tuple_mul ⟨_, ho, rfl⟩ F.entry_tuple_mul (F.args_tuple_mul_2 _ _) (mulT_none l its.toArray n dd sl k t c0 c1 c2) ⟨ho, ?_⟩⟩)
      refine ⟨.ref s.heap.objs.size, _, I.laid (t' := s.toks) (o := .tup []) (fun b ob q => Heap.get?_push_of_some _ q) (Nat.le_refl _) ?_, rfl, q _ (I.hok.fresh (Nat.le_refl _))⟩
      exact ⟨by decide, [], .nil, IsTup.new _ _⟩
end L2
namespace DL
open PySem L2
def rMulA (K : PySem.W.Frag) : R2 := fun x y H Q => rMulU x y H Q ∨ rMulT K x y H Q
theorem op_mulA {X : Cx} {K : PySem.W.Frag} (e : X.K = K := by rfl) : OpR X (binaryOp .Mult) (rMulA K) := by subst e; exact OpR.or op_mulU op_mulT
def rInA (K : PySem.W.Frag) (neg : Bool) : R2 := fun x y H Q => rIn K neg x y H Q ∨ (if neg then rNotInD K else rInD K) x y H Q
theorem op_inA {X : Cx} {K : PySem.W.Frag} (hu : X.A.units + 65 < cLine) (e : X.K = K := by rfl) : OpR X (compareOp .In) (rInA K false) := by subst e; exact OpR.or op_in_seq (op_inD hu)
theorem op_notInA {X : Cx} {K : PySem.W.Frag} (hu : X.A.units + 65 < cLine) (e : X.K = K := by rfl) : OpR X (compareOp .NotIn) (rInA K true) := by subst e; exact OpR.or op_notIn_seq (op_notInD hu)
section
variable {K : PySem.W.Frag} {te ta tb : TE} {env e e1 e2 : Env} {r r1 r2 r' : Res} {i j : Int} {d d1 d2 : D} {l m : List D} {o o' : OB} {n : Nat}
theorem oe_mulA (hc : CMul i j ∨ CMulX i j) : OpE K (rMulA K) e (.val (.int i)) (.val (.int j)) (.val (.int (i * j))) := fun b F oa σ H v w S h1 h2 Q k => .inl (oe_mul hc b F oa σ H v w S h1 h2 Q k)
/-- t * k -/
theorem oe_rept (hl : l.length ≤ 1000) (h0 : -1000 ≤ j) (h1 : j ≤ 4000) : OpE K (rMulA K) e (.val (.tup l)) (.val (.int j)) (.val (.tup (List.replicate j.toNat l).flatten)) := fun b F oa σ H v w S g1 g2 Q k => by
  cases g2
  cases g1 with
  | tup s p =>
    rename_i a vs
    have lv := p.length
    refine .inr ⟨a, j, vs, rfl, rfl, S.g.fh.t s, h1, h0, by omega, fun e => ?_, fun e => ?_, fun n1 n2 q hq => ?_⟩
    · have : l = [] := List.eq_nil_of_length_eq_zero (by rw [← lv, e]; rfl)
      subst this
      have e2 : (List.replicate j.toNat ([] : List D)).flatten = [] := by simp
      rw [e2] at k
      exact k _ _ _ S Stp.refl (.tup s p)
    · subst e
      have e2 : (List.replicate (1 : Int).toNat l).flatten = l := by simp
      rw [e2] at k
      exact k _ _ _ S Stp.refl (.tup s p)
    · have rep : ∀ m : Nat, RepL K F (List.replicate m vs).flatten (List.replicate m l).flatten := fun m => by
        induction m with
        | zero => exact .nil
        | succ m ih => rw [List.replicate_succ, List.replicate_succ, List.flatten_cons, List.flatten_cons]; exact p.append ih
      exact k _ _ _ (S.new hq) (Stp.new hq (S.g.fh.back hq)) (.tup (.inl (.inl upd_same)) ((rep _).mono (Ex.new (S.g.fh.back hq))))
theorem inV_ints {x : Int} : ∀ xs : List Int, inV (.int x) (xs.map V.int) = decide (x ∈ xs)
  | [] => by simp [inV]
  | y :: xs => by
    have ih := inV_ints (x := x) xs
    unfold inV at ih ⊢
    rw [List.map_cons, List.any_cons, ih]
    show (y == x || _) = _
    by_cases h : x = y
    · subst h; simp
    · have : (y == x) = false := beq_eq_false_iff_ne.mpr (Ne.symm h)
      simp [this, h]
theorem flat_ints : ∀ xs : List Int, (xs.map V.int).all flatV = true
  | [] => rfl
  | b :: bs => by rw [List.map_cons, List.all_cons, flat_ints bs]; rfl
/-- n in (..) of ints -/
theorem oe_in {xs : List Int} (q : RdL e r (xs.map D.int) ∨ Rd e r (.tup (xs.map D.int))) (neg : Bool) : OpE K (rInA K neg) e (.val (.int i)) r (.val (.bl (if neg then !decide (i ∈ xs) else decide (i ∈ xs)))) := fun b F oa σ H v w S g1 g2 Q k => by
  cases g1
  rcases q with q | q
  · obtain ⟨a, ws, rfl, s, p⟩ := q.g S g2
    have e := p.ints
    subst e
    refine .inl ⟨a, xs.map V.int, rfl, .inl s, rfl, flat_ints xs, ?_⟩
    rw [inV_ints]
    exact k _ F H S Stp.refl (.bl _)
  · obtain ⟨a, ws, rfl, s, p⟩ := q.tup S g2
    have e := p.ints
    subst e
    refine .inl ⟨a, xs.map V.int, rfl, .inr s, rfl, flat_ints xs, ?_⟩
    rw [inV_ints]
    exact k _ F H S Stp.refl (.bl _)
/-- enumerate(xs) -/
def enumD (l : List D) : List D := (List.range l.length).map fun i => .tup [.int (i : Nat), l.getD i .non]
theorem enumD_len : (enumD l).length = l.length := by simp [enumD]
theorem enumD_get {i : Nat} (h : (enumD l)[i]? = some d) : ∃ x, l[i]? = some x ∧ d = .tup [.int (i : Nat), x] := by
  unfold enumD at h
  rw [List.getElem?_map] at h
  obtain ⟨k, hk, rfl⟩ := Option.map_eq_some_iff.mp h
  obtain ⟨h1, h2⟩ := List.getElem?_eq_some_iff.mp hk
  rw [List.length_range] at h1
  rw [List.getElem_range] at h2
  subst h2
  exact ⟨l[i], by simp [h1], by rw [List.getD_eq_getElem?_getD, List.getElem?_eq_getElem h1]; rfl⟩
theorem ei_enum {ta : TE} (h : Ev K ta env (.val d) e1) (q : d = .lst l ∨ d = .scr l) : EvI K (iEnum K (tCons ta tNil)) env (enumD l) e1 := fun b F oa σ H S R k => h b F oa σ H S _ fun v F1 H1 S1 g1 q1 => by
  have g : ∃ a vs, v = .ref a ∧ SqL K F1 a vs ∧ RepL K F1 vs l := by
    rcases q with rfl | rfl
    · cases q1 with
      | lst s p => exact ⟨_, _, rfl, .inl (.inl s), p⟩
    · cases q1 with
      | scr s p => exact ⟨_, _, rfl, s, p⟩
  obtain ⟨a, vs, rfl, s, p⟩ := g
  refine ⟨a, vs, rfl, S1.g.fh.l s, k _ F1 H1 S1 g1 ⟨fun H => SqL K H a vs, _, by rw [enumD_len, ← p.length]; exact walk_enum, fun H2 e => e.l s, fun i dd x F2 H2 H3 e _ _ y => .inr ?_⟩⟩
  obtain ⟨T, x1, x2, h1, h2, h3, h4, h5⟩ := y
  obtain ⟨z, hz, rfl⟩ := enumD_get e
  obtain ⟨z', z1, z2⟩ := p.get hz
  dsimp only at h4 h5
  rw [h5] at z1; cases z1
  cases h4
  exact ⟨T, _, _, rfl, h1, h2, h3, .cons (.int _) (.cons z2 .nil)⟩
/-- zip of two tuples -/
theorem walk_zipT {a b : Addr} {xs ys : List V} {n : Nat} (hn : n = min xs.length ys.length) : Walk (RZ.ItzT K a b) n (fun H => SqT K H a xs ∧ SqT K H b ys) (YPair (fun i => xs[i]?) (fun i => ys[i]?)) := by
  subst hn
  refine ⟨fun i _ hi q => ⟨xs, ys, xs[i]'(by omega), ys[i]'(by omega), q.1, q.2, by simp [show i < xs.length by omega], by simp [show i < ys.length by omega]⟩, fun _ q => ⟨xs, ys, q.1, q.2, by omega⟩, fun i H v H' _ q y => ?_⟩
  obtain ⟨T, x, y, h1, h2, h3, h4, h5⟩ := y
  exact ⟨T, x, y, h1, h2, h3, h4 xs q.1, h5 ys q.2⟩
def zipD (l m : List D) : List D := (l.zip m).map fun p => .tup [p.1, p.2]
theorem ei_zipT {tz : TA} (h : EvA K tz env [.val (.tup l), .val (.tup m)] e1) : EvI K (RZ.iZipA K tz) env (zipD l m) e1 := fun b F oa σ H S R k => h b F oa σ H S _ fun vs F1 H1 S1 g1 q1 => by
  match vs, q1 with
  | [v, w], q1 =>
    cases q1.1 with
    | tup s p =>
      cases q1.2.1 with
      | tup s' p' =>
        rename_i a us a' ws
        refine ⟨a, a', us, ws, rfl, .inr ⟨S1.g.fh.t s, S1.g.fh.t s', k _ F1 H1 S1 g1 ⟨fun H => SqT K H a us ∧ SqT K H a' ws, _, walk_zipT (by unfold zipD; rw [List.length_map, List.length_zip, p.length, p'.length]), fun H2 e => ⟨e.t s, e.t s'⟩, fun i dd x F2 H2 H3 e _ _ y => .inr ?_⟩⟩⟩
        obtain ⟨T, x1, x2, h1, h2, h3, h4, h5⟩ := y
        unfold zipD at e
        rw [List.getElem?_map] at e
        obtain ⟨⟨p1, p2⟩, hp, rfl⟩ := Option.map_eq_some_iff.mp e
        have hz := List.getElem?_zip_eq_some.mp hp
        obtain ⟨z, z1, z2⟩ := p.get hz.1
        obtain ⟨z', z3, z4⟩ := p'.get hz.2
        dsimp only at h4 h5
        rw [h4] at z1; cases z1
        rw [h5] at z3; cases z3
        exact ⟨T, _, _, rfl, h1, h2, h3, .cons z2 (.cons z4 .nil)⟩
/-- xs or y, xs a list -/
theorem ev_orL (ha : Ev K ta env (.val (.lst l)) e1) (hb : Ev K tb e1 (.val d) e1) : Ev K (tOrT K ta tb) env (.val (if l.isEmpty then d else .lst l)) e1 := fun b F oa σ H S Q k => ha b F oa σ H S _ fun v F1 H1 S1 g1 q1 => by
  cases q1 with
  | lst s p =>
    rename_i a vs
    refine ⟨!vs.isEmpty, .inl ⟨vs, .inl (.inl (S1.g.fh _ _ s)), rfl⟩, ?_⟩
    cases p with
    | nil => exact hb b F1 oa σ H1 S1 _ fun w F2 H2 S2 g2 q2 => k _ F2 H2 S2 (g1.trans g2) q2
    | cons p1 p2 => exact k _ F1 H1 S1 g1 (.lst s (.cons p1 p2))
end
/-! ### defs whose first argument is an object that they change -/
def PO (f : OB → List D → Ret → OB → Prop) : List AV → Ret → List AV → Prop := fun as r as' => ∃ o ds o', as = .own o :: ds.map AV.val ∧ as' = .own o' :: ds.map AV.val ∧ f o ds r o'
section
variable {K : PySem.W.Frag} {ta : TA} {env e1 : Env} {rs : List Res} {ds : List D} {d : D} {o o' ob : OB} {i : Nat} {f : OB → List D → Ret → OB → Prop} {E : XK}
theorem argOf_own (hi : e1[i]? = some (.own o)) (hv : vals rs = some ds) : argOf e1 (.slot i :: rs) = some (.own o :: ds.map AV.val) := by
  unfold argOf
  rw [hi, argOf_vals hv]
  rfl
theorem ev_callO (h : EvA K ta env (.slot i :: rs) e1) (hi : e1[i]? = some (.own o)) (hv : vals rs = some ds) (hf : f o ds (.val d) o') : Ev K (tCall (SpG K (PO f)) [] E ta) env (.val d) (e1.set i (.own o')) := by
  have q := ev_call (E := E) (as' := .own o' :: ds.map AV.val) h (argOf_own hi hv) (by unfold slots; rw [slots_vals hv]; simp) (P := PO f) ⟨o, ds, o', rfl, rfl, hf⟩ (by simp)
  have e : putA (.slot i :: rs) (.own o' :: ds.map AV.val) e1 = e1.set i (.own o') := by
    unfold putA
    rw [putA_vals hv]
  rw [e] at q
  exact q
theorem en_callO (h : EvA K ta env (.slot i :: rs) e1) (hi : e1[i]? = some (.own o)) (hv : vals rs = some ds) (hf : f o ds (.new ob) o') : EvN K (tCall (SpG K (PO f)) [] E ta) env ob (e1.set i (.own o')) := by
  have q := en_call (E := E) (as' := .own o' :: ds.map AV.val) h (argOf_own hi hv) (by unfold slots; rw [slots_vals hv]; simp) (P := PO f) ⟨o, ds, o', rfl, rfl, hf⟩ (by simp)
  have e : putA (.slot i :: rs) (.own o' :: ds.map AV.val) e1 = e1.set i (.own o') := by
    unfold putA
    rw [putA_vals hv]
  rw [e] at q
  exact q
end
section
variable {P : Program} {w : World} {K : PySem.W.Frag} {mg : Str → Option Value} {base : Heap} {x qn : Str} {st : Stmt} {fa : Addr} {fd : FuncData} {N ps : List Str} {k : Nat}
theorem Fn.ofO {f : OB → List D → Ret → OB → Prop} (F : Fun K x qn st fa fd) (S : FnScope N ps (defScope st)) (hn : ∀ o ds r o', f o ds r o' → ds.length + 1 = ps.length)
    (body : ∀ (cdv : Value) (A : Around) (outer : List PySem.Env) (s : Shared) (H : Hp) (E : XK), Room k (A.deeper (PyProof.Rows.envOfC qn (defScope st) s.heap.objs.size fa cdv)) →
      ∃ t, PSs (cxOf CX0 P w K mg base N qn (defScope st) fa cdv A outer s H E).nox (defBody st) t ∧ ∀ o ds r o', f o ds r o' → Exec K [0] (fun cls d _ H => E cls d H) t (EV.own o :: ds.map EV.val ++ List.replicate (N.length - ps.length) .any)
      (fun e => r = .val .non ∧ e[0]? = some (.own o')) (fun _ => False) (fun _ => False) (fun q e => q = r ∧ e[0]? = some (.own o'))) : FnOk P w K mg base CX0 (k + 1) fa fd ps (SpG K (PO f)) :=
  Fn.ofG F S (fun as r as' ⟨o, ds, o', h1, _, h4⟩ => by rw [h1, List.length_cons, List.length_map]; exact hn o ds r o' h4) fun cdv A outer s H E hr => by
    obtain ⟨t, h1, h2⟩ := body cdv A outer s H E hr
    refine ⟨t, h1, fun as r as' ⟨o, ds, o', e1, e2, hf⟩ => ⟨[0], fun i ob h => ?_, ?_⟩⟩
    · subst e1
      cases i with
      | zero => exact List.mem_cons_self
      | succ i => rw [List.getElem?_cons_succ] at h; exact absurd h vals_noOwn
    subst e1 e2
    have held : ∀ e : Env, e[0]? = some (.own o') → Held (.own o :: ds.map AV.val) (.own o' :: ds.map AV.val) e := fun e he i ob h => by
      cases i with
      | zero => exact ⟨o', rfl, he⟩
      | succ i => rw [List.getElem?_cons_succ] at h; exact absurd h vals_noOwn
    have em : (AV.own o :: ds.map AV.val).map AV.ev = EV.own o :: ds.map EV.val := by rw [List.map_cons, List.map_map]; rfl
    rw [em]
    exact x_mono (h2 o ds r o' hf) (fun e h => ⟨h.1, held e h.2⟩) (fun _ h => h) (fun _ h => h) fun q e h => ⟨h.1, held e h.2⟩
end
end DL

namespace DL
open PySem L2
/-! ### a comprehension whose part changes the object in the first slot -/
theorem back_cons {a b : EV} {R : Env} {k : Nat} {x : EV} : back [k + 1] 0 (a :: R) ((b :: R).set (k + 1) x) = b :: R := by
  apply List.ext_getElem?
  intro i
  rw [back_get (by simp), Nat.zero_add]
  by_cases h : i = k + 1
  · subst h; simp
  · rw [if_neg (by simpa using h), List.getElem?_set_ne (Ne.symm h)]
section
variable {K : PySem.W.Frag} {te : TE} {wi : TI} {env R : Env} {k : Nat} {ds : List D}
theorem en_lcS (S : Nat → OB) (A : Nat → List D) (f : Nat → D) (hi : EvI K wi env ds (EV.own (S 0) :: R)) (h0 : A 0 = []) (hn : ∀ o, R[k]? ≠ some (.own o)) (hz : ds.length ≤ sizeLine)
    (hs : ∀ i d, ds[i]? = some d → A (i + 1) = A i ++ [f i] ∧ Ev K te (EV.own (S i) :: R.set k (.val d)) (.val (f i)) (EV.own (S (i + 1)) :: R.set k (.val d))) :
    EvN K (tLc wi (gName (k + 1)) tYes te [k + 1]) env (.lst (A ds.length)) (EV.own (S ds.length) :: R) := by
  refine en_lc (vs := [k + 1]) (js := [k + 1]) (fun i => EV.own (S i) :: R) A hi h0 (fun i _ j o h => ?_) hz (fun _ h => h) fun i d hd => ?_
  · simp at h
    subst h
    rw [List.getElem?_cons_succ]
    exact hn o
  · obtain ⟨h1, h2⟩ := hs i d hd
    have ss : (wipeE (EV.own (S i) :: R) [k + 1]).set (k + 1) (.val d) = EV.own (S i) :: R.set k (.val d) := by
      show (((EV.own (S i) :: R).set (k + 1) .any)).set (k + 1) _ = _
      rw [List.set_set]; rfl
    refine ⟨EV.own (S i) :: R.set k (.val d), true, EV.own (S i) :: R.set k (.val d), by rw [← ss]; exact eg_name, fun j o h => ?_, et_yes, fun _ => ⟨f i, _, h2, h1, (back_cons (x := .val d)).symm⟩, fun h => by cases h⟩
    show ∃ o', ((EV.own (S i) :: R).set (k + 1) .any)[j]? = _
    by_cases q : j = k + 1
    · subst q
      rw [List.getElem?_cons_succ, List.getElem?_set] at h
      split at h
      · split at h <;> cases h
      · rename_i z; exact absurd rfl z
    · refine ⟨o, ?_⟩
      rw [List.getElem?_set_ne (Ne.symm q)]
      cases j with
      | zero => exact h
      | succ j =>
        rw [List.getElem?_cons_succ, List.getElem?_set_ne (by omega)] at h
        rw [List.getElem?_cons_succ]
        exact h
end
theorem rep_one {α : Type} (x : α) : ∀ n : Nat, (List.replicate n [x]).flatten = List.replicate n x
  | 0 => rfl
  | n + 1 => by rw [List.replicate_succ, List.flatten_cons, rep_one x n, List.replicate_succ]; rfl
theorem rep_map {α β : Type} (f : α → β) (l : List α) (n : Nat) : (List.replicate n (l.map f)).flatten = ((List.replicate n l).flatten).map f := by
  rw [List.map_flatten, List.map_replicate]
end DL

/-! ### xs.insert, a list times n, isinstance of several classes -/
namespace L2
open PySem
def rIns : V → List V → Hp → VK → Prop := fun x vs H Q => ∃ (l : Addr) (xs : List V) (i : Int) (y : V), x = .ref l ∧ vs = [.int i, y] ∧ H l = some (.lst xs) ∧ xs.length < sizeLine ∧ 0 ≤ i ∧ i < 2 ^ 63 ∧
    Q .non (upd H l (.lst (xs.take i.toNat ++ [y] ++ xs.drop i.toNat)))
theorem mt_ins {X : Cx} : MtR X "list.insert" rIns := mt_insert
end L2
namespace DL
open PySem L2
section
variable {K : PySem.W.Frag} {pr : List Nat} {W : WX} {te ta tb : TE} {ts : TA} {env e1 e2 e : Env} {r : Res} {i : Nat} {l m : List D} {N B C : Env → Prop} {R : Ret → Env → Prop} {n j : Int} {d : D} {c : Bool}
/-- xs.insert(0, e), xs a slot's -/
theorem x_ins0 (he : env[i]? = some (.own (.lst l))) (h0 : Ev K ta env (.val (.int 0)) env) (h : Ev K te env (.val d) e1) (he1 : e1[i]? = some (.own (.lst m))) (hz : m.length < sizeLine) (k : N (e1.set i (.own (.lst (d :: m))))) :
    Exec K pr W (tDrop (tBM K "list" rIns (tVar i) (tCons ta (tCons te tNil)))) env N B C R := fun b F oa σ H D hp S st => by
  obtain ⟨h1, h2, h3, vs, h4, h5⟩ := S.own i _ he
  refine ⟨_, h1, .inl ⟨rfl, vs, .inl (.inl h4)⟩, h0 b F oa σ H S _ fun v0 F0 H0 S0 g0 q0 => h b F0 oa σ H0 S0 _ fun v F1 H1 S1 g1 q1 => ?_⟩
  cases q0
  obtain ⟨x1, x2, x3, ws, x4, x5⟩ := S1.own i _ he1
  refine ⟨oa i, ws, 0, v, rfl, rfl, x4, by rw [x5.length]; exact hz, by decide, by decide, ?_⟩
  have e : ws.take (0 : Int).toNat ++ [v] ++ ws.drop (0 : Int).toNat = v :: ws := rfl
  rw [e]
  exact st.nx _ F1 oa σ _ k (S1.mut (o' := .lst (d :: m)) he1 rfl ⟨_, upd_same, .cons q1 x5⟩) (g0.ff.trans g1.ff)
theorem rep_repl {F : Hp} {vs : List V} (p : RepL K F vs l) : ∀ m : Nat, RepL K F (List.replicate m vs).flatten (List.replicate m l).flatten
  | 0 => .nil
  | m + 1 => by rw [List.replicate_succ, List.replicate_succ, List.flatten_cons, List.flatten_cons]; exact p.append (rep_repl p m)
/-- xs * n -/
theorem en_repL (ha : Ev K ta env r e1) (hb : Ev K tb e1 (.val (.int n)) e2) (h1 : Rd e2 r (.lst l)) (h2 : -(2 ^ 63) ≤ n) (h3 : n < 2 ^ 63) (hz : l.length * n.toNat ≤ sizeLine) : EvN K (tOp (rMulA K) ta tb) env (.lst (List.replicate n.toNat l).flatten) e2 := fun b F oa σ H S Q k =>
  ha b F oa σ H S _ fun v F1 H1 S1 g1 q1 => hb b F1 oa σ H1 S1 _ fun w F2 H2 S2 g2 q2 => by
    obtain ⟨a, vs, rfl, s, p⟩ := h1.lst' S2 (q1.mono g2.ff)
    cases q2
    refine .inl (.inr (.inr ⟨a, n, vs, rfl, rfl, s, h2, h3, by rw [p.length]; exact hz, fun q hp => ?_⟩))
    obtain ⟨S4, gn, n'⟩ := en_new (o := .lst (List.replicate n.toNat l).flatten) (u := .lst (List.replicate n.toNat vs).flatten) S2 hp ⟨_, upd_same, rep_repl p _⟩
    exact k _ _ _ S4 ((g1.trans g2).trans gn) ((g1.trans g2).none hp) n'
theorem vals_refs : ∀ {F : Hp} {oa : Nat → Addr} {vs : List V} {cs : List Addr}, RRs K F oa vs (cs.map fun C => .val (.ref C)) → vs = cs.map V.ref
  | _, _, [], [], _ => rfl
  | _, _, [], _ :: _, h => h.elim
  | _, _, _ :: _, [], h => h.elim
  | _, _, v :: vs, C :: cs, h => by
    cases h.1
    rw [vals_refs h.2]; rfl
theorem pair_refs : ∀ {cs : List Addr}, Paired ClsV (cs.map V.ref) (cs.map Value.ref)
  | [] => .nil
  | C :: cs => .cons (.own C) pair_refs
/-- isinstance(x, (A, B, ..)) of an exception that is kept, of own classes -/
theorem ev_isxT {C : Addr} {cs : List Addr} (x : ExcC K C) (ha : Ev K ta env (.val (.exc C)) e1) (hs : EvA K ts e1 (cs.map fun C => .val (.ref C)) e2) (hl : cs.length ≤ sizeLine) (hk : PySem.W.kitAny K (.ref C) (cs.map Value.ref) = some c) :
    Ev K (tCB (rIsiU K) (tCons ta (tCons (tTup ts) tNil))) env (.val (.bl c)) e2 := fun b F oa σ H S Q k =>
  ha b F oa σ H S _ fun v F1 H1 S1 g1 q1 => hs b F1 oa σ H1 S1 _ fun vs F2 H2 S2 g2 q2 => by
    have e := vals_refs q2
    subst e
    have q1' : Rep K F2 v (.exc C) := Rep.mono g2.ff q1
    cases q1' with
    | exc hx =>
      refine ⟨by rw [List.length_map]; exact hl, fun p hp => .inr (.inr (.inr ⟨_, C, p, cs.map V.ref, cs.map Value.ref, c, rfl, ?_, x, upd_same, pair_refs, hk, ?_⟩))⟩
      · have hH := S2.g.fh _ _ hx
        rw [upd_ne (ne_of_none hH hp)]
        exact hH
      · exact k _ _ _ (S2.new hp) ((g1.trans g2).trans (Stp.new hp (S2.g.fh.back hp))) (.bl c)
/-- which of several classes: by each one's answer -/
theorem kit_none {t : Value} {cs : List Addr} (h : ∀ C, C ∈ cs → PySem.W.kitOne K t (.ref C) = some false) : PySem.W.kitAny K t (cs.map Value.ref) = some false := by
  induction cs with
  | nil => exact kitAny_nil
  | cons C cs ih => exact kitAny_cons (h C List.mem_cons_self) (fun _ => ih fun C' hc => h C' (List.mem_cons_of_mem _ hc)) (fun h => by cases h)
end
end DL
namespace DL
open PySem L2
theorem oe_nebb {K : PySem.W.Frag} {e : Env} {c1 c2 : Bool} : OpE K (rNeU K) e (.val (.bl c1)) (.val (.bl c2)) (.val (.bl (!decide (c1 = c2)))) := oe_f rfl rfl rfl fun v w h1 h2 => by
  cases h1; cases h2
  exact ⟨_, .bl _, fun H Q q => .inl ⟨rfl, by rw [show decide (V.bl c1 = V.bl c2) = decide (c1 = c2) by simp]; exact q⟩⟩
theorem oe_eqbb {K : PySem.W.Frag} {e : Env} {c1 c2 : Bool} : OpE K (rEqU K) e (.val (.bl c1)) (.val (.bl c2)) (.val (.bl (decide (c1 = c2)))) := oe_f rfl rfl rfl fun v w h1 h2 => by
  cases h1; cases h2
  exact ⟨_, .bl _, fun H Q q => .inl ⟨rfl, by rw [show decide (V.bl c1 = V.bl c2) = decide (c1 = c2) by simp]; exact q⟩⟩
theorem ixN_nat {n i : Nat} (h : i < n) : ixN n (i : Int) = some i := by
  unfold ixN
  rw [if_pos (by omega), if_pos (by omega)]; rfl
end DL
namespace DL
open PySem L2
mutual
/-- what is the same is equal -/
theorem eqB_self : ∀ {n : Nat} {d : D}, pl n d = true → eqB d d = true
  | n, .non, _ => eqB_non
  | n, .bl b, _ => by rw [eqB_bl]; simp
  | n, .int b, _ => by rw [eqB_int]; simp
  | n, .str x, h => by rw [eqB_str]; simp
  | 0, .tup l, h => by unfold pl at h; cases h
  | 0, .lst l, h => by unfold pl at h; cases h
  | n + 1, .tup l, h => by
    unfold pl at h
    rw [eqB_tup]; exact eqL_self h
  | n + 1, .lst l, h => by
    unfold pl at h
    rw [eqB_lst]; exact eqL_self h
  | 0, .ty _, h => by unfold pl at h; cases h
  | 0, .ref _, h => by unfold pl at h; cases h
  | 0, .scr _, h => by unfold pl at h; cases h
  | 0, .dic _, h => by unfold pl at h; cases h
  | 0, .dit _, h => by unfold pl at h; cases h
  | 0, .obj _ _, h => by unfold pl at h; cases h
  | 0, .exc _, h => by unfold pl at h; cases h
  | _ + 1, .ty _, h => by unfold pl at h; cases h
  | _ + 1, .ref _, h => by unfold pl at h; cases h
  | _ + 1, .scr _, h => by unfold pl at h; cases h
  | _ + 1, .dic _, h => by unfold pl at h; cases h
  | _ + 1, .dit _, h => by unfold pl at h; cases h
  | _ + 1, .obj _ _, h => by unfold pl at h; cases h
  | _ + 1, .exc _, h => by unfold pl at h; cases h
theorem eqL_self : ∀ {n : Nat} {l : List D}, plL n l = true → eqL l l = true
  | n, [], _ => eqL_nil
  | n, d :: r, h => by
    unfold plL at h
    rw [Bool.and_eq_true] at h
    rw [eqL_cc, eqB_self h.1, eqL_self h.2]; rfl
end
theorem eqD_self {d e : D} (h : pl 60 d = true) (q : d = e) : eqD d e = some true := by
  subst q
  rw [eqD_pl h h, eqB_self h]
example : pl 60 (.lst [.str "code", .str "code"]) = true := by decide +kernel
end DL

/-! ### len(set(xs)), xs.pop(i), xs.remove(x), xs[::-1], objects lent to a call -/
namespace L2
open PySem PySem.Spec PyProof.Rows
/-- how many unlike ones -/
def unlike (ns : List Int) : Nat := (PyProof.Rows.firstMet (fun i => ns.getD i 0) ns.length).length
theorem firstMet_mem {ns : List Int} : ∀ i, i ≤ ns.length → ∀ x, (x ∈ PyProof.Rows.firstMet (fun i => ns.getD i 0) i ↔ x ∈ ns.take i)
  | 0, _, x => by show x ∈ [] ↔ x ∈ []; exact Iff.rfl
  | i + 1, hi, x => by
    have hlt : i < ns.length := hi
    have ih := firstMet_mem (ns := ns) i (by omega)
    have e1 : ns.getD i 0 = ns[i] := by rw [List.getD_eq_getElem?_getD, List.getElem?_eq_getElem hlt] <;> rfl
    have e2 : ns.take (i + 1) = ns.take i ++ [ns[i]] := by rw [List.take_add_one, List.getElem?_eq_getElem hlt] <;> rfl
    rw [PyProof.Rows.firstMet_succ, e2]
    show x ∈ (if (PyProof.Rows.firstMet (fun i => ns.getD i 0) i).any (· == ns.getD i 0) then PyProof.Rows.firstMet (fun i => ns.getD i 0) i else PyProof.Rows.firstMet (fun i => ns.getD i 0) i ++ [ns.getD i 0]) ↔ _
    rw [e1, List.mem_append, List.mem_singleton]
    by_cases h : ns[i] ∈ PyProof.Rows.firstMet (fun i => ns.getD i 0) i
    · rw [if_pos (List.any_eq_true.mpr ⟨_, h, by simp⟩), ih x]
      refine ⟨.inl, fun z => ?_⟩
      rcases z with z | z
      · exact z
      · rw [z]; exact (ih _).mp h
    · rw [if_neg (fun z => h (by
        obtain ⟨y, hy, ey⟩ := List.any_eq_true.mp z
        rw [← eq_of_beq ey]; exact hy)), List.mem_append, List.mem_singleton, ih x]
theorem firstMet_len {ns : List Int} : ∀ i, i ≤ ns.length → (PyProof.Rows.firstMet (fun i => ns.getD i 0) i).length ≤ i ∧ (¬ (ns.take i).Nodup → (PyProof.Rows.firstMet (fun i => ns.getD i 0) i).length < i)
  | 0, _ => ⟨Nat.le_refl _, fun h => absurd List.nodup_nil h⟩
  | i + 1, hi => by
    have hlt : i < ns.length := hi
    obtain ⟨ih1, ih2⟩ := firstMet_len (ns := ns) i (by omega)
    have e1 : ns.getD i 0 = ns[i] := by rw [List.getD_eq_getElem?_getD, List.getElem?_eq_getElem hlt] <;> rfl
    have e2 : ns.take (i + 1) = ns.take i ++ [ns[i]] := by rw [List.take_add_one, List.getElem?_eq_getElem hlt] <;> rfl
    have hm := firstMet_mem (ns := ns) i (by omega) ns[i]
    rw [PyProof.Rows.firstMet_succ, e2]
    show (if (PyProof.Rows.firstMet (fun i => ns.getD i 0) i).any (· == ns.getD i 0) then PyProof.Rows.firstMet (fun i => ns.getD i 0) i else PyProof.Rows.firstMet (fun i => ns.getD i 0) i ++ [ns.getD i 0]).length ≤ _ ∧ (_ → (if (PyProof.Rows.firstMet (fun i => ns.getD i 0) i).any (· == ns.getD i 0) then PyProof.Rows.firstMet (fun i => ns.getD i 0) i else PyProof.Rows.firstMet (fun i => ns.getD i 0) i ++ [ns.getD i 0]).length < _)
    rw [e1]
    by_cases h : ns[i] ∈ PyProof.Rows.firstMet (fun i => ns.getD i 0) i
    · rw [if_pos (List.any_eq_true.mpr ⟨_, h, by simp⟩)]
      exact ⟨by omega, fun _ => by omega⟩
    · rw [if_neg (fun z => h (by
        obtain ⟨y, hy, ey⟩ := List.any_eq_true.mp z
        rw [← eq_of_beq ey]; exact hy)), List.length_append]
      refine ⟨by show _ + 1 ≤ _; omega, fun q => ?_⟩
      have : ¬ (ns.take i).Nodup := fun d => q (by
        rw [List.nodup_append]
        refine ⟨d, by simp, fun a ha b hb => ?_⟩
        rw [List.mem_singleton] at hb
        subst hb
        intro e
        subst e
        exact h (hm.mpr ha))
      have := ih2 this
      show _ + 1 < _
      omega
theorem unlike_lt {ns : List Int} : decide (unlike ns < ns.length) = !decide ns.Nodup := by
  by_cases h : ns.Nodup
  · have e : unlike ns = ns.length := by
      unfold unlike
      rw [RZ.firstMet_nodup h _ (Nat.le_refl _), List.take_length]
    rw [decide_eq_true h, decide_eq_false (by omega)]; rfl
  · have e := (firstMet_len (ns := ns) ns.length (Nat.le_refl _)).2 (by rw [List.take_length]; exact h)
    rw [decide_eq_false h, decide_eq_true (show unlike ns < ns.length from e)]; rfl
def tLenSetG (K : PySem.W.Frag) (ta : TE) : TE := fun σ H Q => ta σ H fun x H1 => ∃ (l : Addr) (ns : List Int), x = .ref l ∧ SqL K H1 l (ns.map V.int) ∧ ns.length ≤ 4000 ∧ Q (.int (unlike ns : Nat)) H1
theorem pe_lenSetG {X : Cx} {K : PySem.W.Frag} {a : Expr} {ta : TE} {p p2 q pos : Pos} (hg : Gl X "len") (hm : X.mg "len" = none) (hg2 : Gl X "set") (hm2 : X.mg "set" = none) (ha : PE X a ta) (hc : X.calm = true := by rfl) (ek : X.K = K := by rfl)
    (na : starEach [a] X.env = (false, eval a X.env) :: starEach [] X.env := by rfl) : PE X (.Call (.Name "len" p) [.Call (.Name "set" p2) [a] [] q] [] pos) (tLenSetG K ta) := by
  subst ek
  refine ⟨fun pins s σ H Q I h => ?_⟩
  refine Call_ (ld_blt I hg hm boot_len ?_)
  refine PyProof.Rows.callWith_builtin1 (PyProof.Rows.args_cons ?_ rfl) rfl rfl
  refine Call_ (ld_blt I hg2 hm2 boot_set ?_)
  refine PyProof.Rows.callWith_type1 (PyProof.Rows.args_cons (thn (ha.run pins s σ H _ I h) fun v s1 ⟨x, H1, I1, r1, q1⟩ => PyProof.Rows.args_nil ?_) na) na rfl
  obtain ⟨l, ns, rfl, hq, hl, q1⟩ := q1
  cases r1
  obtain ⟨its, r, pl, hz⟩ := I1.list hq
  have hlen : its.toArray.size = ns.length := by rw [List.size_toArray, ← r.length, List.length_map]
  refine call_set_list (I1.ok.hd hc) pl.isList (by simpa using RZ.intsAre_vals r) (by rw [hlen]; unfold scanBound; omega) fun h' tk hS hk => ?_
  refine PyProof.Rows.args_nil ?_
  rw [hlen] at hS
  have hle := (firstMet_len (ns := ns) ns.length (Nat.le_refl _)).1
  obtain ⟨o, es, ep, t, ho, hex, hd, _, _, _, hf, hn⟩ := hS
  have I2 : Inv X pins σ H1 { s1 with heap := h', toks := tk } := I1.kept fun b o e => hk b o (Heap.lt_size e) e
  exact call_len_set ho hex hd hf (by rw [hn] <;> omega) ⟨.int (unlike ns : Nat), H1, I2.tok _, ⟨_, by rw [hn]; rfl⟩, q1⟩
theorem mt_popA {X : Cx} : MtR X "list.pop" rPopAt := mt_popAt
theorem mt_rem {X : Cx} : MtR X "list.remove" rRemI := mt_remove
end L2
namespace DL
open PySem L2
section
variable {K : PySem.W.Frag} {pr : List Nat} {W : WX} {te ta tb : TE} {ts : TA} {env e1 e2 e : Env} {r : Res} {i : Nat} {l m : List D} {N B C : Env → Prop} {R : Ret → Env → Prop} {n j : Int} {d : D} {c : Bool} {ns : List Int} {o : OB} {ds : List D} {rs : List Res}
theorem ev_lenset (h : Ev K ta env r e1) (q : RdL e1 r (ns.map D.int)) (hl : ns.length ≤ 4000) : Ev K (tLenSetG K ta) env (.val (.int (unlike ns : Nat))) e1 := fun b F oa σ H S Q k =>
  h b F oa σ H S _ fun v F1 H1 S1 g1 q1 => by
    obtain ⟨a, vs, rfl, s, p⟩ := q.g S1 q1
    have e := p.ints
    subst e
    exact ⟨a, ns, rfl, s, hl, k _ F1 H1 S1 g1 (.int _)⟩
/-- xs[::-1] -/
theorem en_rev (h : Ev K ta env r e1) (q : RdL e1 r l) : EvN K (tRevL K ta) env (.lst l.reverse) e1 := fun b F oa σ H S Q k =>
  h b F oa σ H S _ fun v F1 H1 S1 g1 q1 => by
    obtain ⟨a, vs, rfl, s, p⟩ := q.g S1 q1
    refine ⟨a, vs, rfl, s, fun p' hp => ?_⟩
    obtain ⟨S4, gn, n⟩ := en_new (o := .lst l.reverse) (u := .lst vs.reverse) S1 hp ⟨_, upd_same, p.reverse⟩
    exact k _ _ _ S4 (g1.trans gn) (g1.none hp) n
theorem idx_first {n : Int} : ∀ (ns : List Int) (m : Nat), m < ns.idxOf n → ns[m]? ≠ some n
  | [], m, h => by simp at h
  | x :: ns, m, h => by
    rw [List.idxOf_cons] at h
    by_cases q : x = n
    · subst q; simp at h
    · have e : (x == n) = false := beq_eq_false_iff_ne.mpr q
      rw [e] at h
      simp at h
      cases m with
      | zero => simp; exact q
      | succ m => rw [List.getElem?_cons_succ]; exact idx_first ns m (by omega)
/-- xs.remove(x), of ints, xs a slot's, x among them -/
theorem x_rem (he : env[i]? = some (.own (.lst l))) (h : Ev K te env (.val (.int n)) e1) (he1 : e1[i]? = some (.own (.lst (ns.map D.int)))) (hn : n ∈ ns) (k : N (e1.set i (.own (.lst ((ns.erase n).map D.int))))) :
    Exec K pr W (tDrop (tBM K "list" rRemI (tVar i) (tCons te tNil))) env N B C R := fun b F oa σ H D hp S st => by
  obtain ⟨h1, h2, h3, vs, h4, h5⟩ := S.own i _ he
  refine ⟨_, h1, .inl ⟨rfl, vs, .inl (.inl h4)⟩, h b F oa σ H S _ fun v F1 H1 S1 g1 q1 => ?_⟩
  cases q1
  obtain ⟨x1, x2, x3, ws, x4, x5⟩ := S1.own i _ he1
  have e := x5.ints
  subst e
  have hlt : ns.idxOf n < ns.length := List.idxOf_lt_length_of_mem hn
  refine ⟨oa i, ns, n, ns.idxOf n, rfl, rfl, x4, by rw [List.getElem?_eq_getElem hlt, List.getElem_idxOf hlt], fun m hm hz => ?_, ?_⟩
  · exact idx_first ns m hm hz
  · rw [← List.erase_eq_eraseIdx_of_idxOf (i := ns.idxOf n) rfl]
    exact st.nx _ F1 oa σ _ k (S1.mut (o' := .lst ((ns.erase n).map DL.D.int)) he1 rfl ⟨_, upd_same, RepL.of_ints⟩) g1.ff
theorem RepL.eraseIdx {F : Hp} : ∀ {vs : List V} {ds : List D} (n : Nat), RepL K F vs ds → RepL K F (vs.eraseIdx n) (ds.eraseIdx n)
  | _, _, _, .nil => .nil
  | _, _, 0, .cons _ r => r
  | _, _, n + 1, .cons q r => .cons q (RepL.eraseIdx n r)
/-- xs.pop(j), xs a slot's -/
theorem ev_popA {j : Nat} (he : env[i]? = some (.own (.lst l))) (h : Ev K te env (.val (.int (j : Nat))) e1) (he1 : e1[i]? = some (.own (.lst m))) (hj : m[j]? = some d) (hb : j < 2 ^ 62) :
    Ev K (tBM K "list" rPopAt (tVar i) (tCons te tNil)) env (.val d) (e1.set i (.own (.lst (m.eraseIdx j)))) := fun b F oa σ H S Q k => by
  obtain ⟨h1, h2, h3, vs, h4, h5⟩ := S.own i _ he
  refine ⟨_, h1, .inl ⟨rfl, vs, .inl (.inl h4)⟩, h b F oa σ H S _ fun v F1 H1 S1 g1 q1 => ?_⟩
  cases q1
  obtain ⟨x1, x2, x3, ws, x4, x5⟩ := S1.own i _ he1
  obtain ⟨z, z1, z2⟩ := x5.get hj
  have hlt : j < ws.length := (List.getElem?_eq_some_iff.mp z1).1
  refine ⟨oa i, ws, (j : Nat), j, z, rfl, rfl, x4, by omega, by omega, ?_, z1, ?_⟩
  · unfold seqIndex?
    simp only [show ¬ ((j : Int) < 0) by omega, if_false]
    rw [if_pos (by simp; omega)]; rfl
  · have S2 := S1.mut (o' := .lst (m.eraseIdx j)) he1 rfl ⟨_, upd_same, x5.eraseIdx j⟩
    refine k z F1 _ S2 ?_ z2
    refine g1.trans ⟨Ex.refl _, fun a u hu hno => ?_, fun a h => .inl h, fun a h => ?_, fun j o e => ?_⟩
    · rw [upd_ne (Ne.symm (hno i _ he1))]; exact hu
    · by_cases q : a = oa i
      · subst q; rw [upd_same]; simp
      · rw [upd_ne q]; exact h
    · rw [List.getElem?_set] at e
      split at e
      · rename_i q; subst q; exact ⟨_, he1⟩
      · exact ⟨_, e⟩
theorem rds_len {F : Hp} {oa : Nat → Addr} : ∀ {vs : List V} {rs : List Res}, RRs K F oa vs rs → vs.length = rs.length
  | [], [], _ => rfl
  | [], _ :: _, h => h.elim
  | _ :: _, [], h => h.elim
  | _ :: _, _ :: _, h => by rw [List.length_cons, List.length_cons, rds_len h.2]
/-- what each argument reads -/
inductive Rds (env : Env) : List Res → List D → Prop
  | nil : Rds env [] []
  | cons {r : Res} {d : D} {rs : List Res} {ds : List D} : Rd env r d → Rds env rs ds → Rds env (r :: rs) (d :: ds)
theorem Rds.rep {b : Bs} {F : Hp} {oa : Nat → Addr} {σ : L2.St} {H : Hp} (S : Sig K b F oa σ H env) : ∀ {vs : List V} {rs : List Res} {ds : List D}, RRs K F oa vs rs → Rds env rs ds → vs.length = ds.length ∧ ∀ (i : Nat) (d : D), ds[i]? = some d → ∃ v, vs[i]? = some v ∧ Rep K H v d
  | [], _, _, h, .nil => ⟨rfl, fun i d hi => by simp at hi⟩
  | _ :: _, _, _, h, .nil => h.elim
  | [], _, _, h, .cons _ _ => h.elim
  | v :: vs, _, _, h, .cons q t => by
    obtain ⟨h1, h2⟩ := Rds.rep S h.2 t
    refine ⟨by rw [List.length_cons, List.length_cons, h1], fun i d hi => ?_⟩
    cases i with
    | zero => simp at hi; subst hi; exact ⟨v, rfl, q.rep S h.1⟩
    | succ i => simp at hi; exact h2 i d hi
/-- a call by data, objects of slots lent to it; what comes is flat -/
theorem ev_callB {f : List D → D → Prop} {E : XK} (h : EvA K ts env rs e1) (hr : Rds e1 rs ds) (hf : f ds d) (fl : flat d = true) : Ev K (tCall (SpG K (PV f)) [] E ts) env (.val d) e1 := fun b F oa σ H S Q k =>
  h b F oa σ H S _ fun vs F1 H1 S1 g1 q1 => by
    obtain ⟨p1, p2⟩ := Rds.rep S1 q1 hr
    have no : ∀ (vs : List V) (a : Addr), ¬ ownA vs (ds.map AV.val) a := fun vs a ⟨i, o, h, _⟩ => absurd h vals_noOwn
    refine ⟨H1, ds.map AV.val, .val d, ds.map AV.val, Ex.refl _, ⟨?_, fun i d' hi => ?_, fun i o hi => absurd hi vals_noOwn, fun i j o u a hi => absurd hi vals_noOwn⟩, ⟨ds, d, rfl, rfl, rfl, hf⟩, fun v F' H' ce => ?_⟩
    · rw [List.append_nil, List.length_map, p1]
    · rw [List.getElem?_map] at hi
      obtain ⟨d2, h2, h3⟩ := Option.map_eq_some_iff.mp hi
      cases h3
      rw [List.append_nil]
      exact p2 i d' h2
    · have gh : Ex H1 H' := fun a u hu => ce.kp a u hu (no _ a)
      have th : ∀ a, H1 a ≠ none → H' a ≠ none := fun a h z => by
        cases q : H1 a with
        | none => exact h q
        | some u => rw [gh a u q] at z; cases z
      have G : Grow F1 H1 F1 H' := ⟨Ex.refl _, gh, S1.g.fh.trans gh, fun a h => .inl h⟩
      exact k v F1 H' (S1.grow G) (g1.trans ⟨Ex.refl _, fun a u hu _ => gh a u hu, fun a h => .inl h, th, fun j o e => ⟨o, e⟩⟩) (ce.ret.flat fl)
end
end DL

/-! ### xs[k] += n; in, of data of any depth; more that raises -/
namespace L2
open PySem PySem.Spec PyProof.Rows
def rGetN (K : PySem.W.Frag) : V → V → Hp → VK → Prop := fun o i H Q => ∃ (p : Addr) (xs : List V) (n : Nat) (v : V), o = .ref p ∧ i = .int (n : Nat) ∧ SqL K H p xs ∧ xs[n]? = some v ∧ Q v H
theorem get_listN {X : Cx} : PGet X (rGetN X.K) := by
  intro pins s σ H o i ov iv Q I r1 r2 h
  obtain ⟨p, xs, n, v, rfl, rfl, hq, he, q⟩ := h
  cases r1
  obtain ⟨t, rfl⟩ := r2
  obtain ⟨its, r, pl, hz⟩ := I.list hq
  obtain ⟨w, ew, rw'⟩ := r.get he
  have hl := r.length
  have hn := line63
  have hlt : n < xs.length := (List.getElem?_eq_some_iff.mp he).1
  exact wpAny_getItem_list pl.isList (by omega) (by omega) (by simpa using ew) ⟨v, H, I, rw', q⟩
theorem get_listK {X : Cx} {K : PySem.W.Frag} (e : X.K = K := by rfl) : PGet X (rGetN K) := by subst e; exact get_listN
end L2
namespace DL
open PySem L2
section
variable {X : Cx} {k j : Nat} {x : Str} {sp : Sp} {p pos : Pos}
theorem pe_df0 (c : Df X.prog X.w X.K X.mg X.base k x sp) (hr : Room j X.A) (hk : k ≤ j) (hg : Gl X x)
    (hdb : (x == ("__debug__" : Str)) = false := by decide) : PE X (.Call (.Name x p) [] [] pos) (tCall sp [] E0 tNil) := by
  obtain ⟨f, fd, ps, F, hm, kp, b⟩ := c.ex
  exact pe_call0 F (hr.mono hk) hg hm kp b .nil pass0 hdb
end
theorem room65 {k : Nat} {A : Around} (r : Room k A) : A.units + 65 < cLine := by have := r.un; omega
def inB (d : D) (l : List D) : Bool := l.any fun z => eqB z d
theorem any_eqv {d : D} {p : PyData} (h : py d = some p) : ∀ {l : List D} {ps : List PyData}, pys l = some ps → (ps.any fun z => PyData.eqv z p) = inB d l
  | [], ps, e => by
    unfold pys at e
    cases e; rfl
  | x :: l, ps, e => by
    unfold pys at e
    cases q : py x with
    | none => rw [q] at e; cases e
    | some a =>
      cases q2 : pys l with
      | none => rw [q, q2] at e; cases e
      | some as =>
        rw [q, q2] at e
        cases e
        show (PyData.eqv a p || as.any fun z => PyData.eqv z p) = (eqB x d || inB d l)
        have e2 : eqB x d = PyData.eqv a p := by unfold eqB; rw [q, h]
        rw [any_eqv h q2, e2]
section
variable {K : PySem.W.Frag} {pr : List Nat} {W : WX} {te ta tb to : TE} {ts : TA} {env e1 e2 e : Env} {r r1 r2 : Res} {i : Nat} {l m : List D} {N B C : Env → Prop} {R : Ret → Env → Prop} {n j k0 : Int} {d : D} {c : Bool} {X : Addr} {t u : TT}
theorem shaped_pl {d : D} {p : PyData} (h : pl 60 d = true) (e : py d = some p) : SeqAt.shaped p = true := by
  obtain ⟨q, a1, a2, a3⟩ := pl_py h
  rw [e] at a1
  cases a1
  unfold SeqAt.shaped
  rw [a2, Bool.true_and]
  exact decide_eq_true (by omega)
theorem oe_inD {neg : Bool} (h1 : Rd e r1 d) (h2 : Rd e r2 (.lst l)) (p1 : pl 60 d = true) (p2 : pl 60 (.lst l) = true) : OpE K (rInA K neg) e r1 r2 (.val (.bl (if neg then !inB d l else inB d l))) := fun b F oa σ H v w S g1 g2 Q k => by
  obtain ⟨p, a1, _⟩ := pl_py p1
  obtain ⟨q, b1, _⟩ := pl_py p2
  have b1' := b1
  have hl : ∃ ps, pys l = some ps ∧ q = .list ps := by
    unfold py at b1
    cases z : pys l with
    | none => rw [z] at b1; cases b1
    | some ps => rw [z] at b1; cases b1; exact ⟨ps, rfl, rfl⟩
  obtain ⟨ps, hp, rfl⟩ := hl
  have hv := any_eqv a1 hp
  refine .inr ?_
  cases neg with
  | false =>
    refine ⟨p, ps, (h1.rep S g1).dp a1, (h2.rep S g2).dp b1', shaped_pl p1 a1, shaped_pl p2 b1', ?_⟩
    rw [hv]
    exact k _ F H S Stp.refl (.bl _)
  | true =>
    refine ⟨p, ps, (h1.rep S g1).dp a1, (h2.rep S g2).dp b1', shaped_pl p1 a1, shaped_pl p2 b1', ?_⟩
    rw [hv]
    exact k _ F H S Stp.refl (.bl _)
/-- xs[k] += n, xs a slot's -/
theorem x_augl {p : Nat} {a : Int} (he : env[i]? = some (.own (.lst m))) (hi : Ev K tb env (.val (.int (p : Nat))) env) (hx : m[p]? = some (.int a)) (h : Ev K te env (.val (.int n)) env) (k : N (env.set i (.own (.lst (m.set p (.int (a + n))))))) :
    Exec K pr W (tAugS (tVar i) tb te (rGetN K) ipAddU rSetL) env N B C R := fun b F oa σ H D hp S st => by
  obtain ⟨y1, _, _, vs0, y4, _⟩ := S.own i _ he
  refine ⟨_, y1, hi b F oa σ H S _ fun w F1 H1 S1 g1 q1 => ?_⟩
  cases q1
  obtain ⟨x1, x2, x3, ws, x4, x5⟩ := S1.own i _ he
  obtain ⟨z, z1, z2⟩ := x5.get hx
  cases z2
  refine ⟨oa i, ws, p, .int a, rfl, rfl, .inl (.inl x4), z1, ?_⟩
  have hlt : p < m.length := (List.getElem?_eq_some_iff.mp hx).1
  refine h b F1 oa σ H1 S1 _ fun w F2 H2 S2 g2 q2 => ?_
  cases q2
  obtain ⟨u1, u2, u3, ws2, u4, u5⟩ := S2.own i _ he
  refine .inl ⟨a, n, rfl, rfl, oa i, ws2, (p : Nat), p, rfl, rfl, u4, by rw [u5.length]; exact ixN_nat hlt, ?_⟩
  exact st.nx _ F2 oa σ _ k (S2.mut (o' := .lst (m.set p (.int (a + n)))) he rfl ⟨_, upd_same, RepL.set (.int _) p u5⟩) (g1.ff.trans g2.ff)
/-! raising in parts -/
theorem ex_and1 (h : EvX K W ta env X e1) : EvX K W (tAndV ta tb) env X e1 := fun b F oa σ H S w Q => h b F oa σ H S w _
theorem ex_cmp {rc : List V → Hp → VK → Prop} (h : EvAX K W ts env X e1) : EvX K W (tCB rc ts) env X e1 := ex_cb h
end
end DL

/-! ### instances of own classes: made, read, written -/
namespace DL
open PySem L2
def putD (f : Str) (d : D) : List (Str × D) → List (Str × D)
  | [] => [(f, d)]
  | (g, x) :: r => if g = f then (g, d) :: r else (g, x) :: putD f d r
section
variable {K : PySem.W.Frag} {F : Hp}
theorem look_zip {f : Str} {d : D} : ∀ {ks : List Str} {vs : List V} {ds : List D}, ks.length = ds.length → RepL K F vs ds → (ks.zip ds).lookup f = some d → ∃ v, (ks.zip vs).lookup f = some v ∧ Rep K F v d
  | [], _, _, _, _, h => by simp at h
  | k :: ks, _, _, hl, .nil, h => by simp at hl
  | k :: ks, v :: _, d' :: _, hl, .cons r t, h => by
    rw [List.zip_cons_cons, List.lookup_cons] at h
    rw [List.zip_cons_cons, List.lookup_cons]
    cases q : (f == k) with
    | true => rw [q] at h; cases h; exact ⟨v, rfl, r⟩
    | false =>
      rw [q] at h
      exact look_zip (by simpa using hl) t h
theorem put_zip {f : Str} {d : D} {v : V} (hv : Rep K F v d) : ∀ {ks : List Str} {vs : List V} {ds : List D}, ks.length = ds.length → RepL K F vs ds →
    ∃ (ks' : List Str) (vs' : List V) (ds' : List D), putF f v (ks.zip vs) = ks'.zip vs' ∧ putD f d (ks.zip ds) = ks'.zip ds' ∧ ks'.length = ds'.length ∧ RepL K F vs' ds'
  | [], [], [], hl, .nil => ⟨[f], [v], [d], rfl, rfl, rfl, .cons hv .nil⟩
  | [], _, _, hl, .cons _ _ => by simp at hl
  | k :: ks, _, _, hl, .nil => by simp at hl
  | k :: ks, v' :: vs, d' :: ds, hl, .cons r t => by
    have hl' : ks.length = ds.length := by simpa using hl
    rw [List.zip_cons_cons, List.zip_cons_cons]
    by_cases q : k = f
    · exact ⟨k :: ks, v :: vs, d :: ds, by show (if k = f then _ else _) = _; rw [if_pos q]; rfl, by show (if k = f then _ else _) = _; rw [if_pos q]; rfl, hl, .cons hv t⟩
    · obtain ⟨ks', vs', ds', h1, h2, h3, h4⟩ := put_zip hv hl' t
      exact ⟨k :: ks', v' :: vs', d' :: ds', by show (if k = f then _ else _) = _; rw [if_neg q, h1]; rfl, by show (if k = f then _ else _) = _; rw [if_neg q, h2]; rfl, by simpa using h3, .cons r h4⟩
end
section
variable {K : PySem.W.Frag} {pr : List Nat} {W : WX} {te ta tv : TE} {ts : TA} {env e1 e2 e : Env} {r : Res} {rs : List Res} {i : Nat} {N B C : Env → Prop} {R : Ret → Env → Prop} {d : D} {ds : List D} {Cc : Addr} {fs : List (Str × D)} {f : Str} {o : OB}
/-- e.f, of an object that stands -/
theorem ev_fld (h : Ev K ta env (.val (.obj Cc fs)) e1) (c : Cls K Cc) (n : NoAttr K Cc f) (l : fs.lookup f = some d) : Ev K (tFld K ta f) env (.val d) e1 := fun b F oa σ H S Q k =>
  h b F oa σ H S _ fun v F1 H1 S1 g1 q1 => by
    cases q1 with
    | obj hF hl hr =>
      obtain ⟨u, l2, r2⟩ := look_zip hl hr l
      exact ⟨_, _, _, _, u, rfl, S1.g.fh _ _ hF, c, n, l2, k u F1 H1 S1 g1 r2⟩
/-- self.f, of a slot's object -/
theorem ev_fldS (he : env[i]? = some (.own (.obj Cc fs))) (c : Cls K Cc) (n : NoAttr K Cc f) (l : fs.lookup f = some d) : Ev K (tFld K (tVar i) f) env (.val d) env := fun b F oa σ H S Q k => by
  obtain ⟨h1, h2, h3, dx, ks, vs, ds', h4, h5, h6, h7⟩ := S.own i _ he
  subst h7
  obtain ⟨u, l2, r2⟩ := look_zip h5 h6 l
  exact ⟨_, h1, _, _, _, _, u, rfl, h4, c, n, l2, k u F H S Stp.refl r2⟩
/-- self.f = e -/
theorem x_fld (h : Ev K tv env (.val d) e1) (he : e1[i]? = some (.own (.obj Cc fs))) (c : Cls K Cc) (n : NoAttr K Cc f) (hz : fs.length < 1000) (kk : N (e1.set i (.own (.obj Cc (putD f d fs))))) : Exec K pr W (sFld K (tVar i) tv f) env N B C R := fun b F oa σ H Dd hp S st =>
  h b F oa σ H S _ fun v F1 H1 S1 g1 q1 => by
    obtain ⟨h1, h2, h3, dx, ks, vs, ds', h4, h5, h6, h7⟩ := S1.own i _ he
    subst h7
    obtain ⟨ks', vs', ds2, p1, p2, p3, p4⟩ := put_zip (f := f) q1 h5 h6
    refine ⟨_, h1, _, _, _, _, rfl, h4, c, n, ?_, ?_⟩
    · rw [List.length_zip, h6.length, ← List.length_zip]; exact hz
    · refine st.nx _ F1 oa σ _ kk (S1.mut (o' := .obj Cc (putD f d (ks.zip ds'))) he rfl ⟨dx, ks', vs', ds2, ?_, p3, p4, p2⟩) g1.ff
      rw [upd_same, p1]
/-- C(e, ..), by an __init__ that does not raise -/
theorem en_make {g : OB → List D → Ret → OB → Prop} (h : EvA K ts env rs e1) (hv : vals rs = some ds) (hf : g (.obj Cc []) ds (.val .non) (.obj Cc fs)) : EvN K (tMake Cc (SpG K (PO g)) [] E0 ts) env (.obj Cc fs) e1 := fun b F oa σ H S Q k =>
  h b F oa σ H S _ fun vs F1 H1 S1 g1 q1 => by
    have p := vals_rep q1 hv
    intro x dx hx hdx hne
    have ex1 : Ex H1 (upd (upd H1 dx (.own x)) x (.ins Cc dx [])) := (Ex.new hdx).trans (Ex.new (by rw [upd_ne (Ne.symm hne)]; exact hx))
    have nF : F1 x = none := S1.g.fh.back hx
    have lv := p.length
    refine ⟨F1, .own (.obj Cc []) :: ds.map AV.val, .val .non, .own (.obj Cc fs) :: ds.map AV.val, S1.g.fh.trans ex1, ⟨?_, fun i d' hi => ?_, fun i o hi => ?_, fun i j o u a h1 h2 _ _ => ?_⟩, ⟨_, ds, _, rfl, rfl, hf⟩, fun v F' H' ce => ?_⟩
    · rw [List.append_nil, List.length_cons, List.length_cons, List.length_map, lv]
    · rw [List.append_nil]
      cases i with
      | zero => rw [List.getElem?_cons_zero] at hi; cases hi
      | succ i =>
        rw [List.getElem?_cons_succ, List.getElem?_map] at hi
        obtain ⟨d2, h2, h3⟩ := Option.map_eq_some_iff.mp hi
        cases h3
        obtain ⟨u, u1, u2⟩ := p.get h2
        exact ⟨u, by rw [List.getElem?_cons_succ]; exact u1, u2⟩
    · cases i with
      | zero =>
        rw [List.getElem?_cons_zero] at hi
        cases hi
        exact ⟨x, rfl, nF, dx, [], [], [], by rw [upd_same]; rfl, rfl, .nil, rfl⟩
      | succ i => rw [List.getElem?_cons_succ] at hi; exact absurd hi vals_noOwn
    · cases i with
      | zero =>
        cases j with
        | zero => rfl
        | succ j => rw [List.getElem?_cons_succ] at h2; exact absurd h2 vals_noOwn
      | succ i => rw [List.getElem?_cons_succ] at h1; exact absurd h1 vals_noOwn
    · have hown : ∀ a, ownA (.ref x :: (vs ++ [])) (.own (.obj Cc []) :: ds.map AV.val) a → a = x := fun a ⟨i, o, h1, h2⟩ => by
        cases i with
        | zero => rw [List.getElem?_cons_zero] at h2; cases h2; rfl
        | succ i => rw [List.getElem?_cons_succ] at h1; exact absurd h1 vals_noOwn
      have gh : Ex H1 H' := fun a u hu => ce.kp a u (ex1 a u hu) fun z => by
        rw [hown a z, hx] at hu; cases hu
      obtain ⟨o', a, c1, c2, c3, c4⟩ := ce.own 0 (.obj Cc []) rfl
      rw [List.getElem?_cons_zero] at c1 c2
      cases c1
      cases c2
      have G : Grow F1 H1 F' H' := ⟨ce.ff, gh, ce.fh, fun a h => by
        rcases ce.gn a h with z | z
        · exact .inl z
        · exact .inr (ex1.back z)⟩
      have th : ∀ a, H1 a ≠ none → H' a ≠ none := fun a h z => by
        cases q : H1 a with
        | none => exact h q
        | some u => rw [gh a u q] at z; cases z
      have sub : Stp oa e1 F1 H1 e1 F' H' := ⟨ce.ff, fun a u hu _ => gh a u hu, G.gn, th, fun j o e => ⟨o, e⟩⟩
      have hnon : v = .non := by
        have := ce.ret
        cases this
        rfl
      exact ⟨hnon, k x F' H' (S1.grow G) (g1.trans sub) (g1.none hx) ⟨c3, S1.g.gh.back hx, fun j u e => S1.ne hx e, fun j e => (S1.fix j x e).2 hx, c4⟩⟩
end
/-- a class whose instances are made by a call of its name -/
structure Mf (P : Program) (w : World) (K : PySem.W.Frag) (mg : Str → Option Value) (base : Heap) (k : Nat) (x : Str) (C : Addr) (sp : Sp) : Prop where
  ex : ∃ (f : Addr) (fd : FuncData) (ps : List Str), Mk K C f ∧ FnOk P w K mg base CX0 k f fd ps sp ∧ mg x = some (.ref C) ∧ Binds K fd ps []
section
variable {X : Cx} {k j : Nat} {x : Str} {C : Addr} {sp : Sp} {p pos : Pos} {e : Expr} {es : List Expr} {t : TA}
theorem pe_mf (c : Mf X.prog X.w X.K X.mg X.base k x C sp) (hr : Room j X.A) (hk : k + 1 ≤ j) (hg : Gl X x) (ha : PA X (e :: es) t)
    (hdb : (x == ("__debug__" : Str)) = false := by decide) (he : starEach (e :: es) X.env = (false, eval e X.env) :: starEach es X.env := by rfl) (hpl : (backTo pos (starEach es X.env)).any (·.1) = false := by rfl) :
    PE X (.Call (.Name x p) (e :: es) [] pos) (tMake C sp [] E0 t) := by
  obtain ⟨f, fd, ps, M, F, hm, b⟩ := c.ex
  exact pe_make M F (hr.mono hk) hg hm b .nil pass0 ha hdb he hpl
end
theorem Mf.of {P : Program} {w : World} {K : PySem.W.Frag} {mg : Str → Option Value} {base : Heap} {k : Nat} {x : Str} {C fa : Addr} {fd : FuncData} {ps : List Str} {sp : Sp} (M : Mk K C fa) (h : FnOk P w K mg base CX0 k fa fd ps sp) (hm : mg x = some (.ref C)) (b : Binds K fd ps []) : Mf P w K mg base k x C sp := ⟨fa, fd, ps, M, h, hm, b⟩
end DL
namespace DL
open PySem L2
/-! ### try: .. except C: .. -/
def tTryO (K : PySem.W.Frag) (c : Value) (ts : TS) (tb : WX → TS) : TS := fun D σ H => tb (wOnly K c (fun _ _ _ => ts) (fun _ _ _ _ => False) D) D σ H
theorem ps_tryO {X : Cx} {x : Str} {c : Value} {body suite : List Stmt} {b₀ : Stmt} {np pos pos' : Pos} {tb : WX → TS} {ts : TS} (hs : X.stack = X.env :: X.outer) (hf : X.env.frame = some X.env.locals) (hc : Names X x c)
    (hb : ∀ (W : WX) (pn : List (Addr × Obj)) (xe : Value → Shared → Prop), Takes (X.tr pn xe) W → PassesOwn (model X.prog X.w) X.A X.env xe → PSs (X.tr pn xe) body (tb W))
    (hsu : ∀ (a : Addr) (oe : Obj) (cls : Value) (d : Option Addr) (pn : List (Addr × Obj)), Zc cls d oe → (∃ vs, oe.data = .fields vs) → PSs (X.suite a ((a, oe) :: pn)) (b₀ :: suite) ts) :
    PS X (.Try body [.ExceptHandler (some (.Name x np)) none (b₀ :: suite) pos'] [] [] pos) (tTryO X.K c ts tb) := ps_try_only hs hf hc takes0 hb hsu
section
variable {K : PySem.W.Frag} {pr : List Nat} {W : WX} {env : Env} {N B C M : Env → Prop} {R : Ret → Env → Prop} {c : Value} {tb : WX → TS} {ts : TS}
def caughtO (K : PySem.W.Frag) (c : Value) (M : Env → Prop) (R : Ret → Env → Prop) : Ret → Env → Prop := fun q e => match q with
  | .exc X => PySem.W.exmOne K (.ref X) c = some true ∧ M e
  | q => R q e
theorem x_tryO (M : Env → Prop) (h : ∀ W', Exec K pr W' (tb W') env N B C (caughtO K c M R)) (hs : ∀ e, M e → Exec K pr W ts e N B C R) : Exec K pr W (tTryO K c ts tb) env N B C R := fun b F oa σ H D hp S st => by
  refine h _ b F oa σ H D hp S ⟨st.nx, st.bk, st.ct, fun r env F' oa σ H v hr S' x q => ?_, fun X env F' oa σ H hr S' x => ?_⟩
  · cases r with
    | exc X => exact q.elim
    | val d => exact st.rt _ env F' oa σ H v hr S' x q
    | new o => exact st.rt _ env F' oa σ H v hr S' x q
  · obtain ⟨h1, h2⟩ := hr
    exact ⟨true, h1, fun _ a na => hs env h2 b F' oa σ H D hp S' (st.mono x), fun z => by cases z⟩
end
end DL
namespace L2
open PySem PySem.Spec PyProof.Rows
theorem noI_tuple_add : typeLookup (.type "tuple") (dunderI "add") = pure none := by rw [typeLookup_type, builtinLookup_eq_fast]; kernel_rfl
section
variable {prog : Program} {w : World} {A : Around} {E : Value → Shared → Prop} {s : Shared}
theorem icat_tup {t b : Addr} {vs ws : List Value} {Q : Value → Shared → Prop} (ht : IsTup s.heap t vs.toArray) (hb : IsTup s.heap b ws.toArray) (hv : vs ≠ [])
    (h1 : ws = [] → Q (.ref t) s) (h2 : ws ≠ [] → Q (.ref s.heap.objs.size) { s with heap := s.heap.push { cls := .type "tuple", data := .seq (vs ++ ws).toArray } })
    (hsz : vs.length + ws.length ≤ sizeLine) : wpAny (model prog w) A (inplaceOp .Add (.ref t) (.ref b)) Q E s := by
  obtain ⟨⟨cls, dd, data, sl⟩, ho, hc, n, hd⟩ := id ht
  obtain ⟨⟨cls2, dd2, data2, sl2⟩, ho2, hc2, n2, hd2⟩ := id hb
  simp only at hc hd hc2 hd2
  subst hc hd hc2 hd2
  have e : vs.toArray ++ ws.toArray = (vs ++ ws).toArray := by simp
  by_cases hw : ws = []
  · exact wpAny_inplaceOp_concat ⟨_, ho, rfl⟩ ⟨_, ho2, rfl⟩ noI_tuple_add noFill_tuple_add seq_tuple_add (call_meets PySem.F.slot_tuple_add ⟨_, ho, rfl⟩ PySem.F.entry_tuple_add (PySem.F.args_tuple_add_2 _ _)
      (tuple_addW1 t b vs.toArray ws.toArray n n2 dd dd2 sl sl2 (by simpa using hv) (by simp [hw])) ⟨ho, ho2, h1 hw⟩)
  · refine wpAny_inplaceOp_concat ⟨_, ho, rfl⟩ ⟨_, ho2, rfl⟩ noI_tuple_add noFill_tuple_add seq_tuple_add (call_meets PySem.F.slot_tuple_add ⟨_, ho, rfl⟩ PySem.F.entry_tuple_add (PySem.F.args_tuple_add_2 _ _)
      (tuple_addW2 t b vs.toArray ws.toArray n n2 dd dd2 sl sl2 (by simpa using hv) (by simpa using hw) (by rw [List.size_toArray, List.size_toArray]; exact hsz)) ⟨ho, ho2, ?_⟩)
    rw [e]
    exact h2 hw
end
theorem iop_catT {X : Cx} : OpR X (inplaceOp .Add) (rCatT X.K) := by
  intro pins s σ H x y v u Q I rx ry h
  obtain ⟨a, b, xs, ys, rfl, rfl, ha, hb, hx, hz, q1, q2⟩ := h
  cases rx
  cases ry
  obtain ⟨its, r1, p1, _⟩ := I.tuple ha
  obtain ⟨its2, r2, p2, _⟩ := I.tuple hb
  refine icat_tup p1 p2 (fun z => hx (r1.nil_iff.mp z)) (fun z => ⟨.ref a, H, I, rfl, q1 (r2.nil_iff.mp z)⟩) (fun z => ?_) (by rw [← r1.length, ← r2.length]; exact hz)
  refine ⟨.ref s.heap.objs.size, _, I.laid (t' := s.toks) (o := .tup (xs ++ ys)) (fun b ob q => Heap.get?_push_of_some _ q) (Nat.le_refl _) ?_, rfl, q2 (fun w => z (r2.nil_iff.mpr w)) _ (I.hok.fresh (Nat.le_refl _))⟩
  exact ⟨by rw [List.length_append]; exact hz, _, r1.append r2, IsTup.new _ _⟩
end L2
namespace DL
open PySem L2
def ipAddT (K : PySem.W.Frag) : TIp := fun x y H Q => ipAddU x y H Q ∨ rCatT K x y H Q
theorem ip_addT {X : Cx} {K : PySem.W.Frag} (e : X.K = K := by rfl) : PIp X .Add (ipAddT K) := by
  subst e
  intro pins s σ H x y v u Q I rx ry h
  rcases h with h | h
  · exact ip_addU pins s σ H x y v u Q I rx ry h
  · exact iop_catT pins s σ H x y v u Q I rx ry h
section
variable {K : PySem.W.Frag} {pr : List Nat} {W : WX} {te : TE} {env e1 : Env} {i : Nat} {l m : List D} {N B C : Env → Prop} {R : Ret → Env → Prop}
/-- t += u, tuples, t not empty -/
theorem x_augT (hx : env[i]? = some (.val (.tup l))) (h : Ev K te env (.val (.tup m)) e1) (hl : l ≠ []) (hz : l.length + m.length ≤ sizeLine) (kk : N (e1.set i (.val (.tup (l ++ m))))) : Exec K pr W (tAug i te (ipAddT K)) env N B C R := fun b F oa σ H D hp S st => by
  obtain ⟨v, h1, h2⟩ := S.val i _ hx
  refine ⟨_, h1, h b F oa σ H S _ fun w F1 H1 S1 g1 q1 => ?_⟩
  have h2' := Rep.mono g1.ff h2
  cases h2' with
  | tup s p =>
    cases q1 with
    | tup s' p' =>
      rename_i a vs a' ws
      refine .inr ⟨a, a', vs, ws, rfl, rfl, S1.g.fh.t s, S1.g.fh.t s', fun z => ?_, by rw [p.length, p'.length]; exact hz, fun e => ?_, fun ne q hq => ?_⟩
      · subst z; cases p; exact hl rfl
      · subst e
        cases p'
        rw [List.append_nil] at kk
        exact st.nx _ F1 oa _ H1 kk (S1.set (.tup s p)) g1.ff
      · exact st.nx _ _ oa _ _ kk ((S1.new hq).set (.tup (.inl (.inl upd_same)) ((p.append p').mono (Ex.new (S1.g.fh.back hq))))) (g1.ff.trans (Ex.new (S1.g.fh.back hq)))
/-- x += n, ints -/
theorem x_augI {n k : Int} (hx : env[i]? = some (.val (.int n))) (h : Ev K te env (.val (.int k)) e1) (kk : N (e1.set i (.val (.int (n + k))))) : Exec K pr W (tAug i te (ipAddT K)) env N B C R := fun b F oa σ H D hp S st => by
  obtain ⟨v, h1, h2⟩ := S.val i _ hx
  cases h2
  exact ⟨_, h1, h b F oa σ H S _ fun w F1 H1 S1 g1 q1 => by cases q1; exact .inl (.inl ⟨n, k, rfl, rfl, st.nx _ F1 oa _ H1 kk (S1.set (.int _)) g1.ff⟩)⟩
end
end DL

/-! ### repr of tuples, where nothing is under way: in the law's own def, called from the top -/
namespace L2
open PySem PySem.Spec PyProof.Rows
def rReprT (K : PySem.W.Frag) : List V → Hp → VK → Prop := fun xs H Q => ∃ (a : Addr) (ps : List PyData), xs = [.ref a] ∧ Dp K H (.ref a) (.tuple ps) ∧ PyData.showable (.tuple ps) = true ∧ PyData.hasDict (.tuple ps) = false ∧ (PyData.tuple ps).depth ≤ 62 ∧ (PyData.shown (.tuple ps)).length ≤ sizeLine ∧
  Q (.str (PyData.shown (.tuple ps))) H
theorem call_reprT {X : Cx} (hg : X.A.guards = some []) (hu : X.A.units + 65 < cLine) : CallR X (.builtin "repr") (rReprT X.K) := by
  intro pins s σ H xs us Q I r h
  obtain ⟨a, ps, rfl, hd, hs, hn, hp, hz, q⟩ := h
  obtain ⟨u, rfl, ru⟩ := vals1 r
  cases (show u = Value.ref a from ru)
  obtain ⟨as, rd⟩ := Dp.reads I (.tuple ps) (.ref a) (.ref a) hd rfl
  refine repr_of_reads' rd hs (fun e => by rw [hn] at e; cases e) hg (by omega) (fun b o e => e) (fun h' t tk hk => ?_) hz
  exact ⟨.str _, H, I.kept (t' := tk) fun b o e => hk b o e, ⟨t, rfl⟩, q⟩
/-- what a def promises where it is called from the top -/
structure RunC (P : Program) (w : World) (K : PySem.W.Frag) (mg : Str → Option Value) (base : Heap) (CX : CXT) (f : Addr) (fd : FuncData) (ps : List Str) (sp : Sp) : Prop where
  run : ∀ (outer : List Env) (s : Shared) (H : Hp) (args : Args) (us : List Value) (vs : List V) (Q : VK) (E : XK), Env0 P w K mg base callerA outer s H → BindsTo s fd args (ps.zip us) → Vals vs us → sp vs H Q E →
    codeAny (model P w) callerA (.call (.ref f) args) (CR CX outer P w H s Q E) s
theorem RunC.imp {P : Program} {w : World} {K : PySem.W.Frag} {mg : Str → Option Value} {base : Heap} {CX : CXT} {f : Addr} {fd : FuncData} {ps : List Str} {sp sp' : Sp} (R : RunC P w K mg base CX f fd ps sp) (h : ∀ vs H Q E, sp' vs H Q E → sp vs H Q E) : RunC P w K mg base CX f fd ps sp' :=
  ⟨fun outer s H args us vs Q E e b r q => R.run outer s H args us vs Q E e b r (h _ _ _ _ q)⟩
/-- .. by its body -/
theorem runC_of {P : Program} {w : World} {K : PySem.W.Frag} {mg : Str → Option Value} {base : Heap} {CX : CXT} {k : Nat} {f : Addr} {fd : FuncData} {x qn : Str} {st : Stmt} {N ps : List Str} {sp : Sp} (F : Fun K x qn st f fd) (S : FnScope N ps (defScope st)) (hroom : Room (k + 1) callerA)
    (hlen : ∀ vs H Q E, sp vs H Q E → vs.length = ps.length)
    (body : ∀ (cdv : Value) (outer : List Env) (s : Shared) (H : Hp) (vs : List V) (Q : VK) (E : XK), Room k (callerA.deeper (envOfC qn (defScope st) s.heap.objs.size f cdv)) → sp vs H Q E →
      ∃ t, PSs (cxOf CX P w K mg base N qn (defScope st) f cdv callerA outer s H E) (defBody st) t ∧ t { nx := fun _ H' => Q .non H', rt := Q } (start N vs) H) : RunC P w K mg base CX f fd ps sp := by
  obtain ⟨oc, od, kV, doc, pm, an, cdv, ct, osl, rfl, lk, hcd⟩ := F.ex
  constructor
  intro outer s H args us vs Q E e0 hbind hvals hsp
  obtain ⟨t, ht, hread⟩ := body cdv outer s H vs Q E (hroom.deeper _) hsp
  have inK : K.In s.heap := e0.mod.kin.keeps fun b o e => (e0.bs b o e).1
  have noLim : s.heap.NoLimit := e0.mod.nolimit.keeps fun b o e => (e0.bs b o e).1
  refine codeAny_call_function hroom.depth (inK _ _ lk) rfl S.co S.gen rfl (PySem.W.codeRec_of inK hcd) (hbind _ _ _ _ ?_)
  refine wpAny_newFunctionEnv_cells S.kind (fun p hp => ?_) fun env he s1 x => ?_
  · rcases S.par p.1 (List.of_mem_zip (a := p.1) (b := p.2) hp).1 with q | q
    · exact Or.inl q
    · exact Or.inr ⟨q, PySem.W.cellsFrom_some _ _ _ (Or.inl q)⟩
  · subst he
    refine ⟨noLim.keeps x.toInCall.keep, codeAny_func ?_⟩
    have J := inv_start (CX := CX) (E := E) S hroom.hd e0 (hlen _ _ _ _ hsp) hvals x
    refine wpAny_mono (ht.run [] s1 (start N vs) H _ J hread) (fun fl s' z => ?_) fun _ _ z => z
    cases fl with
    | next => obtain ⟨_, H', J', q⟩ := z; exact ⟨.non, H', J'.os, J'.bare, J'.base, J'.hok, rfl, q⟩
    | ret u => obtain ⟨v, _, H', J', rv, q⟩ := z; exact ⟨v, H', J'.os, J'.bare, J'.base, J'.hok, rv, q⟩
    | brk => obtain ⟨_, _, _, q⟩ := z; exact q.elim
    | cont => obtain ⟨_, _, _, q⟩ := z; exact q.elim
/-- the law's call from the top, by such a promise -/
theorem top_call {P : Program} {w : World} {K : PySem.W.Frag} {mg mb : Str → Option Value} {CX : CXT} {fa a : Addr} {fd : FuncData} {x : Str} {sp : Sp} {s₁ : Shared} {vs : List Value} {ns : List Int}
    (inK : K.In s₁.heap) (nsG : s₁.heap.Ns mainGlobals mg) (nsB : s₁.heap.Ns builtinsNs mb) (boot : ∀ y : Str, y ≠ "__name__" → mb y = bootBuiltins y) (noLim : s₁.heap.NoLimit) (noGen : s₁.gens = #[])
    (at_a : s₁.heap.get? a = some { cls := .type "list", data := .seq vs.toArray }) (hInts : IntsAre vs ns) (few : ns.length ≤ sizeLine)
    (F : ∀ base : Heap, K.In base → base.Ns mainGlobals mg → RunC P w K mg base CX fa fd [x] sp) (hbind : ∀ (s : Shared) (u : Value), BindsTo s fd ⟨[u], []⟩ [(x, u)])
    (hsp : ∀ H : Hp, Only H → SqL K H a (ns.map V.int) → sp [.ref a] H (fun v _ => v = .bl true) fun _ _ _ => False)
    (hCX : ∀ H e s', CX [] H s₁ (fun _ _ _ => False) e s' → False) :
    codeAny (model P w) callerA (.call (.ref fa) ⟨[.ref a], []⟩) (fun r s' => r = .ok (.ret (.bool true)) ∧ OldK s₁.heap s'.heap ∧ s'.os = s₁.os ∧ AllBare s'.gens) s₁ := by
  have rv := vals_ints hInts
  have same : vs.length = ns.length := by rw [← rv.length, List.length_map]
  obtain ⟨fz, hfz⟩ : ∃ fz : HO, fz = .frz { cls := .type "list", data := .seq vs.toArray } (.lst (ns.map V.int)) := ⟨_, rfl⟩
  obtain ⟨H, only, has⟩ : ∃ H : Hp, (∀ b u, H b = some u → b = a ∧ u = fz ∧ K.lookup a = none) ∧ (K.lookup a = none → H a = some fz) := by
    cases hk : K.lookup a with
    | some o => exact ⟨fun _ => none, fun b u e => (by cases e), fun e => (by cases e)⟩
    | none =>
      refine ⟨fun b => if b = a then some fz else none, fun b u e => ?_, fun _ => if_pos rfl⟩
      have e : (if b = a then some fz else none) = some u := e
      by_cases z : b = a
      · rw [if_pos z] at e
        cases e
        exact ⟨z, rfl, rfl⟩
      · rw [if_neg z] at e
        cases e
  have free : ∀ b, b ≠ a ∨ K.lookup b ≠ none → H b = none := fun b hb => by
    cases q : H b with
    | none => rfl
    | some u =>
      obtain ⟨z1, z2, z3⟩ := only b u q
      rcases hb with hb | hb
      · exact absurd z1 hb
      · rw [z1] at hb
        exact absurd z3 hb
  have nsH : ∀ (b : Addr) (m : Str → Option Value), s₁.heap.Ns b m → (hidT s₁.heap H).Ns b m := fun b m ⟨o, es, ep, e, dt, rest⟩ => ⟨o, es, ep, hidT_get e (free b (.inl fun z => by
    rw [z, at_a] at e
    cases e
    cases (show Data.seq vs.toArray _ = Data.dict es ep from dt))), dt, rest⟩
  have inH : K.In (hidT s₁.heap H) := fun b o e => hidT_get (inK b o e) (free b (.inr (by rw [e]; simp)))
  have okH : HOk P w H s₁.heap := fun b u e => by
    obtain ⟨z1, z2, _⟩ := only b u e
    subst z1
    rw [z2, hfz]
    exact ⟨at_a, by rw [List.length_map]; exact few, vs, _, rv, at_a⟩
  have modH : Mod K mg (hidT s₁.heap H) := ⟨inH, nsH _ _ nsG, ⟨mb, nsH _ _ nsB, boot⟩, (match noLim with | ⟨mc, l1, l2⟩ => ⟨mc, nsH _ _ l1, l2⟩)⟩
  have env0 : Env0 P w K mg (hidT s₁.heap H) callerA [] s₁ H := by
    refine ⟨rfl, modH, fun b o e => of_hidT e, Nat.le_of_eq (hidT_size _ _), trivial, fun b hb => ?_, okH, .of_eq noGen⟩
    cases (show b ∈ ([] : List Addr) from hb)
  have onlyH : Only H := fun b => by
    cases q : H b with
    | none => exact .inl rfl
    | some u => exact .inr ⟨_, _, by rw [(only b u q).2.1, hfz]⟩
  have sqH : SqL K H a (ns.map V.int) := by
    cases hk : K.lookup a with
    | none => exact .inl (.inr ⟨_, by rw [has hk, hfz]⟩)
    | some o =>
      have e := inK a o hk
      rw [at_a] at e
      cases e
      exact .inr ⟨_, vs.toArray, _, hk, rfl, rfl, rfl, by rw [List.size_toArray, same]; exact few, by simpa using rv⟩
  refine codeAny_mono ((F _ inH (nsH _ _ nsG)).run [] s₁ H ⟨[.ref a], []⟩ [.ref a] [.ref a] _ _ env0 (hbind s₁ (.ref a)) (.cons rfl .nil) (hsp H onlyH sqH)) fun r s' z => ?_
  match r, z with
  | .error e, z => exact (hCX H e s' z).elim
  | .ok .next, z => exact False.elim z
  | .ok .brk, z => exact False.elim z
  | .ok .cont, z => exact False.elim z
  | .ok (.ret u), z =>
    obtain ⟨v, H', z1, z2, z3, z4, z5, z6⟩ := z
    cases (show v = .bl true from z6)
    cases (show u = Value.bool true from z5)
    refine ⟨rfl, OldK.of_keep fun b o e => ?_, z1, z2⟩
    cases q : H b with
    | none => exact z3.keep b o e q (fun y => (by cases (show b ∈ ([] : List Addr) from y))) (by simp)
    | some u =>
      have hu : H b = some (.frz { cls := .type "list", data := .seq vs.toArray } (.lst (ns.map V.int))) := by rw [q, (only b u q).2.1, hfz]
      obtain ⟨y1, _⟩ := okH b _ hu
      obtain ⟨y2, _⟩ := z4 b _ (z3.frzs b _ _ hu)
      rw [e] at y1
      cases y1
      exact y2
theorem walk_top {l : PySem.W.OpenLaw} {n : Nat} {q : Program} {loose : List Str} {XP : (Str → Option Value) → Heap → Prop} {YP : World → Heap → Prop} {d : DefRec} {K : Params → PySem.W.Frag} {CX : World → CXT} {sp : World → Sp} {x : Str}
    (hn : l.most = some n) (hn2 : n ≤ sizeLine) (hdf : d.params.defaults = []) (hY : ∀ (w : World) (h : Heap), YP w h → (K w.params).In h)
    (F : ∀ (w : World) (mg : Str → Option Value) (fa : Addr) (h : Heap), (K w.params).In h → h.Ns mainGlobals mg → mg d.name = some (.ref fa) →
      ∃ fd : FuncData, (∀ (s : Shared) (u : Value), BindsTo s fd ⟨[u], []⟩ [(x, u)]) ∧ ∀ base : Heap, (K w.params).In base → base.Ns mainGlobals mg → RunC l.prog w (K w.params) mg base (CX w) fa fd [x] (sp w))
    (hsp : ∀ (w : World) (H : Hp) (a : Addr) (ns : List Int), ns.length ≤ n → Only H → SqL (K w.params) H a (ns.map V.int) → sp w [.ref a] H (fun v _ => v = .bl true) fun _ _ _ => False)
    (hCX : ∀ (w : World) (H : Hp) (s : Shared) (e : Value) (s' : Shared), CX w [] H s (fun _ _ _ => False) e s' → False) :
    PySem.W.WalkO q loose XP YP l.row.toRowW d [] (fun f vs => PySem.call f vs) := by
  refine Att.attach_call hn hdf ?_
  intro w s₀ s₁ mg mb fa o pm cd doc a vs ns G Y _ _ _ hm at_a hInts len noGen
  obtain ⟨fd, b, R⟩ := F w mg fa _ (hY w _ Y) G.T.g hm
  exact top_call (hY w _ Y) G.T.g G.T.b G.T.builtins G.T.nolimit noGen at_a hInts (Nat.le_trans len hn2) R b (fun H h1 h2 => hsp w H a ns len h1 h2) fun H e s' => hCX w H s₁ e s'
end L2

namespace DL
open PySem L2
/-! ### what repr shows of data -/
def shownD (d : D) : Str := match py d with
  | some p => p.shown
  | none => ""
mutual
def shw : D → Bool
  | .int i => decide (i.natAbs < 10 ^ 100)
  | .bl _ => true
  | .non => true
  | .tup l => shwL l
  | _ => false
def shwL : List D → Bool
  | [] => true
  | d :: l => shw d && shwL l
end
mutual
def cost : D → Nat
  | .int _ => 101
  | .tup l => costL l + 2
  | _ => 5
def costL : List D → Nat
  | [] => 0
  | d :: l => cost d + 2 + costL l
end
theorem int_len {i : Int} (h : i.natAbs < 10 ^ 100) : (Str.ofString (toString i)).length ≤ 101 := by
  rw [ofString_length]
  exact PySem.int_text_length_le10 (a := i) (k := 100) (by decide) h
mutual
theorem shw_py : ∀ {d : D} {p : PyData}, shw d = true → py d = some p → p.showable = true ∧ p.shown.length ≤ cost d
  | .int i, p, h, e => by
    unfold py at e
    cases e
    unfold shw at h
    have h := of_decide_eq_true h
    refine ⟨?_, ?_⟩
    · unfold PyData.showable
      refine decide_eq_true ?_
      by_cases z : i.natAbs = 0
      · rw [z]; decide
      · exact (Nat.log2_lt z).mpr (Nat.lt_of_lt_of_le h (by decide))
    · unfold PyData.shown cost
      exact int_len h
  | .bl b, p, h, e => by
    unfold py at e
    cases e
    unfold cost
    cases b <;> exact ⟨by simp [PyData.showable], by simp [PyData.shown]; decide +kernel⟩
  | .non, p, h, e => by
    unfold py at e
    cases e
    unfold cost
    exact ⟨by simp [PyData.showable], by simp [PyData.shown]; decide +kernel⟩
  | .tup l, p, h, e => by
    unfold py at e
    unfold shw at h
    cases q : pys l with
    | none => rw [q] at e; cases e
    | some ps =>
      rw [q] at e
      cases e
      obtain ⟨h1, h2⟩ := shwL_py h q
      refine ⟨by simpa [PyData.showable] using h1, ?_⟩
      have := fmt_text (PyData.shownAll ps)
      simp only [PyData.shown]
      unfold cost
      omega
  | .str _, p, h, e => by unfold shw at h; cases h
  | .lst _, p, h, e => by unfold shw at h; cases h
  | .ty _, p, h, e => by unfold shw at h; cases h
  | .ref _, p, h, e => by unfold shw at h; cases h
  | .scr _, p, h, e => by unfold shw at h; cases h
  | .dic _, p, h, e => by unfold shw at h; cases h
  | .dit _, p, h, e => by unfold shw at h; cases h
  | .obj _ _, p, h, e => by unfold shw at h; cases h
  | .exc _, p, h, e => by unfold shw at h; cases h
theorem shwL_py : ∀ {l : List D} {ps : List PyData}, shwL l = true → pys l = some ps → PyData.showableAll ps = true ∧ piled (PyData.shownAll ps) ≤ costL l
  | [], ps, h, e => by
    unfold pys at e
    cases e
    exact ⟨rfl, by simp [PyData.shownAll, piled]⟩
  | d :: l, ps, h, e => by
    unfold pys at e
    unfold shwL at h
    rw [Bool.and_eq_true] at h
    cases q : py d with
    | none => rw [q] at e; cases e
    | some p =>
      cases q2 : pys l with
      | none => rw [q, q2] at e; cases e
      | some ps' =>
        rw [q, q2] at e
        cases e
        obtain ⟨a1, a2⟩ := shw_py h.1 q
        obtain ⟨b1, b2⟩ := shwL_py h.2 q2
        refine ⟨by simp [PyData.showableAll, a1, b1], ?_⟩
        simp only [PyData.shownAll]
        rw [piled_cons]
        unfold costL
        omega
end
theorem shwL_ints : ∀ {l : List Int}, (∀ x, x ∈ l → x.natAbs < 10 ^ 100) → shwL (l.map D.int) = true
  | [], _ => by unfold shwL; rfl
  | x :: l, h => by
    rw [List.map_cons]
    unfold shwL shw
    rw [decide_eq_true (h x List.mem_cons_self), shwL_ints fun y hy => h y (List.mem_cons_of_mem _ hy)]
    rfl
theorem costL_ints : ∀ {l : List Int}, costL (l.map D.int) = 103 * l.length
  | [] => by unfold costL; rfl
  | x :: l => by
    rw [List.map_cons]
    unfold costL cost
    rw [costL_ints, List.length_cons]
    omega
section
variable {K : PySem.W.Frag} {e : Env} {r : Res} {l : List D}
theorem ce_reprT (q : Rd e r (.tup l)) (hp : pl 60 (.tup l) = true) (hs : shw (.tup l) = true) (hz : cost (.tup l) ≤ sizeLine) : CbE K (rReprT K) e [r] (.val (.str (shownD (.tup l)))) := fun b F oa σ H vs S h Q k => by
  match vs, h with
  | [v], h =>
    obtain ⟨p, p1, p2, p3⟩ := pl_py hp
    obtain ⟨s1, s2⟩ := shw_py hs p1
    have rp := q.rep S h.1
    have dp := rp.dp p1
    have ht : ∃ ps, p = .tuple ps := by
      unfold py at p1
      cases z : pys l with
      | none => rw [z] at p1; cases p1
      | some ps => rw [z] at p1; cases p1; exact ⟨ps, rfl⟩
    obtain ⟨ps, rfl⟩ := ht
    have hv : ∃ a, v = .ref a := by
      cases rp with
      | tup _ _ => exact ⟨_, rfl⟩
    obtain ⟨a, rfl⟩ := hv
    have es : shownD (.tup l) = PyData.shown (.tuple ps) := by unfold shownD; rw [p1]
    rw [es] at k
    exact ⟨a, ps, rfl, dp, s1, PyData.hasDict_of_canLay _ p2, by omega, Nat.le_trans s2 hz, k _ F H S Stp.refl (.str _)⟩
end
section
variable {P : Program} {w : World} {K : PySem.W.Frag} {mg : Str → Option Value} {base : Heap} {x qn : Str} {st : Stmt} {fa : Addr} {fd : FuncData} {N ps : List Str} {k : Nat}
/-- the law's own def, called from the top -/
theorem Fn.ofVC {f : List D → D → Prop} (F : Fun K x qn st fa fd) (S : FnScope N ps (defScope st)) (hroom : Room (k + 1) callerA) (hn : ∀ ds d, f ds d → ds.length = ps.length)
    (body : ∀ (cdv : Value) (outer : List PySem.Env) (s : Shared) (H : Hp) (E : XK), Room k (callerA.deeper (PyProof.Rows.envOfC qn (defScope st) s.heap.objs.size fa cdv)) →
      ∃ t, PSs (cxOf CX0 P w K mg base N qn (defScope st) fa cdv callerA outer s H E).nox (defBody st) t ∧ ∀ ds d, f ds d → Exec K [] (fun cls d _ H => E cls d H) t (ds.map EV.val ++ List.replicate (N.length - ps.length) .any)
      (fun _ => d = .non) (fun _ => False) (fun _ => False) (fun q _ => q = .val d)) : RunC P w K mg base CX0 fa fd ps (SpG K (PV f)) := by
  have hl : ∀ as r as', PV f as r as' → as.length = ps.length := fun as r as' ⟨ds, d, h1, _, _, h4⟩ => by rw [h1, List.length_map]; exact hn ds d h4
  refine runC_of F S hroom (fun vs H Q E h => spG_len hl h) fun cdv outer s H vs Q E hr h => ?_
  obtain ⟨t, h1, h2⟩ := body cdv outer s H E hr
  have hpl : ps.length ≤ N.length := by have := congrArg List.length S.pre; rw [List.length_take] at this; omega
  refine ⟨t, h1.nox, run_SpG h (fun as r as' p => ⟨hl as r as' p, hpl⟩) fun as r as' ⟨ds, d, e1, e2, e3, hf⟩ => ⟨[], fun i o h => absurd h (by rw [e1]; exact vals_noOwn), ?_⟩⟩
  subst e1 e2 e3
  have held : ∀ e, Held (ds.map AV.val) (ds.map AV.val) e := fun e i o h => absurd h vals_noOwn
  have em : (ds.map AV.val).map AV.ev = ds.map EV.val := by rw [List.map_map]; rfl
  rw [em]
  exact x_mono (h2 ds d hf) (fun e h => ⟨by rw [h], held e⟩) (fun _ h => h) (fun _ h => h) fun q e h => ⟨h, held e⟩
end
end DL

/-! ### methods of own classes that only read; isinstance of an instance -/
namespace DL
open PySem L2
/-- a method -/
structure Mt (P : Program) (w : World) (K : PySem.W.Frag) (mg : Str → Option Value) (base : Heap) (k : Nat) (C : Addr) (m : Str) (sp : Sp) : Prop where
  ex : ∃ (f : Addr) (fd : FuncData) (ps : List Str), Meth K C m f ∧ FnOk P w K mg base CX0 k f fd ps sp ∧ Binds K fd ps []
theorem Mt.of {P : Program} {w : World} {K : PySem.W.Frag} {mg : Str → Option Value} {base : Heap} {k : Nat} {m : Str} {C fa : Addr} {fd : FuncData} {ps : List Str} {sp : Sp} (M : Meth K C m fa) (h : FnOk P w K mg base CX0 k fa fd ps sp) (b : Binds K fd ps []) : Mt P w K mg base k C m sp := ⟨fa, fd, ps, M, h, b⟩
section
variable {X : Cx} {k j : Nat} {m : Str} {C : Addr} {sp : Sp} {apos pos : Pos} {o e : Expr} {es : List Expr} {t : TA} {ta : TE}
theorem pe_mt0 {pl : Sem Bool} (he : PE X o ta) (c : Cls X.K C) (M : Mt X.prog X.w X.K X.mg X.base k C m sp) (hr : Room j X.A) (hk : k ≤ j)
    (ht : eval (.Call (.Attribute o m apos) [] [] pos) X.env = (do
      let ov ← eval o X.env
      standAt apos.atName
      let (f, first) ← holding [ov] (getMethod ov m pl)
      callWith pos f first (backTo pos (starEach [] X.env)) (backToKw pos (keywordEach [] X.env))) := by rfl) :
    PE X (.Call (.Attribute o m apos) [] [] pos) (tMeth C m sp [] E0 ta tNil) := by
  obtain ⟨f, fd, ps, hm, F, b⟩ := M.ex
  exact pe_meth0 (pl := pl) he c hm F (hr.mono hk) b .nil pass0 ht
theorem pe_mt {pl : Sem Bool} (he : PE X o ta) (c : Cls X.K C) (M : Mt X.prog X.w X.K X.mg X.base k C m sp) (hr : Room j X.A) (hk : k ≤ j) (ha : PA X (e :: es) t)
    (hst : starEach (e :: es) X.env = (false, eval e X.env) :: starEach es X.env := by rfl) (hpl : (backTo pos (starEach es X.env)).any (·.1) = false := by rfl)
    (ht : eval (.Call (.Attribute o m apos) (e :: es) [] pos) X.env = (do
      let ov ← eval o X.env
      standAt apos.atName
      let (f, first) ← holding [ov] (getMethod ov m pl)
      callWith pos f first (backTo pos (starEach (e :: es) X.env)) (backToKw pos (keywordEach [] X.env))) := by rfl) :
    PE X (.Call (.Attribute o m apos) (e :: es) [] pos) (tMeth C m sp [] E0 ta t) := by
  obtain ⟨f, fd, ps, hm, F, b⟩ := M.ex
  exact pe_meth (pl := pl) he c hm F (hr.mono hk) b .nil pass0 ha hst hpl ht
end
theorem look_none : ∀ {ks : List Str} {vs : List V} {ds : List D} {f : Str}, ks.length = ds.length → vs.length = ds.length → (ks.zip ds).lookup f = none → (ks.zip vs).lookup f = none
  | [], _, _, _, _, _, _ => rfl
  | k :: ks, [], _, _, _, _, _ => rfl
  | k :: ks, v :: vs, [], f, h, _, _ => by simp at h
  | k :: ks, v :: vs, d :: ds, f, h, h2, l => by
    rw [List.zip_cons_cons, List.lookup_cons] at l ⊢
    cases q : (f == k) with
    | true => rw [q] at l; cases l
    | false =>
      rw [q] at l
      exact look_none (by simpa using h) (by simpa using h2) l
section
variable {K : PySem.W.Frag} {env e e1 e2 : Env} {f : List D → D → Prop} {rs : List Res} {ds : List D} {d : D} {ta : TE} {ts : TA} {E : XK} {Cc : Addr} {m : Str} {fs : List (Str × D)}
theorem ev_methV (h0 : Ev K ta env (.val (.obj Cc fs)) e1) (hm : fs.lookup m = none) (h : EvA K ts e1 rs e2) (hv : vals rs = some ds) (hf : f (.obj Cc fs :: ds) d) : Ev K (tMeth Cc m (SpG K (PV f)) [] E ta ts) env (.val d) e2 := fun b F oa σ H S Q k =>
  h0 b F oa σ H S _ fun x F1 H1 S1 g1 q1 => by
    have q0 : Rep K F1 x (.obj Cc fs) := q1
    generalize hD : D.obj Cc fs = dd at q0
    cases q0 with
    | @obj _ _ _ ks0 _ ds0 hF hl hr =>
      cases hD
      refine ⟨_, _, _, rfl, S1.g.fh _ _ hF, look_none hl hr.length hm, ?_⟩
      refine h b F1 oa σ H1 S1 _ fun vs F2 H2 S2 g2 q2 => ?_
      have hv' : vals (.val (.obj Cc (ks0.zip ds0)) :: rs) = some (.obj Cc (ks0.zip ds0) :: ds) := by unfold vals; rw [hv]; rfl
      obtain ⟨c1, c2⟩ := call_core (r := .val d) (as' := (D.obj Cc _ :: ds).map AV.val) S2 (show RRs K F2 oa (_ :: vs) (.val (.obj Cc (ks0.zip ds0)) :: rs) from ⟨Rep.mono g2.ff q1, q2⟩) (argOf_vals hv') (by rw [slots_vals hv']; exact List.nodup_nil) rfl
      refine ⟨F2, _, .val d, _, S2.g.fh, by rw [List.append_nil]; exact c1, ⟨_, d, rfl, rfl, rfl, hf⟩, fun v F' H' ce => ?_⟩
      rw [List.append_nil] at ce
      obtain ⟨c3, c4⟩ := c2 v F' H' ce
      rw [putA_vals hv'] at c3 c4
      exact k v F' H' c3 ((g1.trans g2).trans c4) ce.ret
    | _ => cases hD
/-- what isinstance asks of an own class -/
structure InC (K : PySem.W.Frag) (C : Addr) : Prop where
  cl : Cls K C
  ha : PySem.W.findIn K (.ref C) "__class__" = some (some (.builtin "object.__class__"))
  hn : PySem.W.specialIn K (.builtin "object.__class__") "__get__" = some (some (.builtin "getset_descriptor.__get__"))
  ht : PySem.W.takesIn K (.builtin "object.__class__") = some true
  hm : PySem.W.mroIn K C (.type "object") = some true
theorem ce_isO {c : V} {u : Value} {r : Bool} {dc : D} (i : InC K Cc) (hc : ∀ F w, Rep K F w dc → w = c) (k : ClsV c u) (hk : PySem.W.kitOne K (.ref Cc) u = some r) : CbE K (rIsiU K) e [.val (.obj Cc fs), .val dc] (.val (.bl r)) := fun b F oa σ H vs S h Q k' => by
  match vs, h with
  | [x, y], h =>
    obtain ⟨q1, q2, _⟩ := h
    have q2' : Rep K F y dc := q2
    cases hc F y q2'
    have q0 : Rep K F x (.obj Cc fs) := q1
    generalize hD : D.obj Cc fs = dd at q0
    cases q0 with
    | obj hF hl hr =>
      cases hD
      exact .inl ⟨_, _, _, _, r, rfl, k, .base (.ins (S.g.fh _ _ hF) i.cl i.ha i.hn i.ht i.hm), hk, k' _ F H S Stp.refl (.bl _)⟩
    | _ => cases hD
theorem ce_isOC {D' : Addr} {r : Bool} (i : InC K Cc) (hk : PySem.W.kitOne K (.ref Cc) (.ref D') = some r) : CbE K (rIsiU K) e [.val (.obj Cc fs), .val (.ref D')] (.val (.bl r)) := ce_isO i (fun F w h => by cases h; rfl) (.own D') hk
theorem ce_isOT {n : String} {r : Bool} (i : InC K Cc) (hk : PySem.W.kitOne K (.ref Cc) (.type n) = some r) : CbE K (rIsiU K) e [.val (.obj Cc fs), .val (.ty n)] (.val (.bl r)) := ce_isO i (fun F w h => by cases h; rfl) (.ty n) hk
end
end DL
/-! ### repr of tuples, ints and texts, at the top -/
namespace DL
open PySem L2
def rReprS : List V → Hp → VK → Prop := fun xs H Q => ∃ x : Str, xs = [.str x] ∧ (reprText x).length ≤ sizeLine ∧ Q (.str (reprText x)) H
theorem call_reprS {X : Cx} : CallR X (.builtin "repr") rReprS := by
  intro pins s σ H xs us Q I r h
  obtain ⟨x, rfl, hz, q⟩ := h
  obtain ⟨u, rfl, t, rfl⟩ := vals1 r
  exact PySem.P.repr_of_str ⟨.str _, H, I.tok _, ⟨_, rfl⟩, q⟩ hz
def rReprA (K : PySem.W.Frag) : List V → Hp → VK → Prop := fun xs H Q => rReprT K xs H Q ∨ (rReprI xs H Q ∨ rReprS xs H Q)
theorem call_reprA {X : Cx} (hg : X.A.guards = some []) (hu : X.A.units + 65 < cLine) : CallR X (.builtin "repr") (rReprA X.K) := CallR.or (L2.call_reprT hg hu) (CallR.or call_reprI call_reprS)
section
variable {K : PySem.W.Frag} {e : Env} {r : Res} {l : List D} {i : Int} {x : Str}
theorem ce_reprAT (q : Rd e r (.tup l)) (hp : pl 60 (.tup l) = true) (hs : shw (.tup l) = true) (hz : cost (.tup l) ≤ sizeLine) : CbE K (rReprA K) e [r] (.val (.str (shownD (.tup l)))) := fun b F oa σ H vs S h Q k => .inl (ce_reprT q hp hs hz b F oa σ H vs S h Q k)
theorem ce_reprAI (h : i.natAbs.log2 < 1920) : CbE K (rReprA K) e [.val (.int i)] (.val (.str (toString i))) := fun b F oa σ H vs S q Q k => .inr (.inl (ce_repr h b F oa σ H vs S q Q k))
theorem ce_reprAS (h : (reprText x).length ≤ sizeLine) : CbE K (rReprA K) e [.val (.str x)] (.val (.str (reprText x))) := fun b F oa σ H vs S q Q k => by
  match vs, q with
  | [v], q => cases q.1; exact .inr (.inr ⟨x, rfl, h, k _ F H S Stp.refl (.str _)⟩)
end
end DL

/-! ### instances made by an __init__ that may raise -/
namespace L2
open PySem PySem.Spec PyProof.Rows
section
variable {X : Cx} {CX : CXT} {k : Nat} {f C : Addr} {fd : FuncData} {ps : List Str} {sp : Sp} {E : St → XK} {x : Str} {p pos : Pos} {e : Expr} {es : List Expr} {t : TA}
theorem run_makeS {pins : List (Addr × Obj)} {σ : St} {H : Hp} {s : Shared} {Q : VK} {us : List Value} {vs : List V} (M : Mk X.K C f) (F : FnOk X.prog X.w X.K X.mg X.base CX k f fd ps sp) (hr : Room (k + 1) X.A) (hb : Binds X.K fd ps [])
    (hx : PassesAt CX X σ (E σ)) (I : Inv X pins σ H s) (r : Vals vs us)
    (h : ∀ x dx, H x = none → H dx = none → dx ≠ x → sp (.ref x :: vs) (upd (upd H dx (.own x)) x (.ins C dx [])) (fun v H2 => v = .non ∧ Q (.ref x) H2) (E σ)) :
    wpAny (model X.prog X.w) X.A (call (.ref C) us) (EP X pins σ Q) X.xe s := by
  have hq := h (s.heap.objs.size + 1) s.heap.objs.size (I.hok.fresh (Nat.le_succ _)) (I.hok.fresh (Nat.le_refl _)) (Nat.ne_of_lt (Nat.lt_succ_self _))
  have I2 := Inv.made (C := C) I
  have r2 : Vals (V.ref (s.heap.objs.size + 1) :: vs) (Value.ref (s.heap.objs.size + 1) :: us) := .cons rfl r
  have hl : (Value.ref (s.heap.objs.size + 1) :: us).length = ps.length := by
    have e := r2.length
    rw [F.len _ _ _ _ hq] at e
    exact e.symm
  have b := hb _ (Value.ref (s.heap.objs.size + 1) :: us) I2.kIn (by rw [List.append_nil]; exact hl)
  rw [List.append_nil] at b
  refine wpAny_call (make_map (f := f) I.kIn M.makes M.init (beq_iff_eq.mp M.fn) (codeAny_mono (F.run _ X.stack _ _ ⟨Value.ref (s.heap.objs.size + 1) :: us, []⟩ (Value.ref (s.heap.objs.size + 1) :: us) _ _ (E σ) (hr.make C us [])
    (I2.env0.make C us []) b r2 hq) fun r s' hq' => ?_))
  cases r with
  | error e => exact hx pins _ _ e s' I2 hq'
  | ok fl =>
    cases fl with
    | ret u =>
      obtain ⟨v, H', I3, rv, ev, q3⟩ := I2.after hq'
      subst ev
      exact ⟨rv, ⟨V.ref (s.heap.objs.size + 1), H', I3, rfl, q3⟩⟩
    | next => exact False.elim hq'
    | brk => exact False.elim hq'
    | cont => exact False.elim hq'
def tMakeS (C : Addr) (sp : Sp) (E : St → XK) (t : TA) : TE := fun σ H Q => t σ H fun vs H1 => ∀ x dx, H1 x = none → H1 dx = none → dx ≠ x →
  sp (.ref x :: vs) (upd (upd H1 dx (.own x)) x (.ins C dx [])) (fun v H2 => v = .non ∧ Q (.ref x) H2) (E σ)
theorem pe_makeS (M : Mk X.K C f) (F : FnOk X.prog X.w X.K X.mg X.base CX k f fd ps sp) (hr : Room (k + 1) X.A) (hg : Gl X x) (hm : X.mg x = some (.ref C)) (hb : Binds X.K fd ps []) (hx : ∀ σ, PassesAt CX X σ (E σ))
    (ha : PA X (e :: es) t) (hdb : (x == ("__debug__" : Str)) = false := by decide) (he : starEach (e :: es) X.env = (false, eval e X.env) :: starEach es X.env := by rfl) (hpl : (backTo pos (starEach es X.env)).any (·.1) = false := by rfl) :
    PE X (.Call (.Name x p) (e :: es) [] pos) (tMakeS C sp E t) := by
  refine ⟨fun pins s σ H Q I h => ?_⟩
  refine wpAny_Call_Name_kw (ld_glob I hg hm ?_ hdb)
  refine PySem.W.callWith_K (h₀ := X.base) I.ok.mod.kin M.kp (thn (ha.run pos pins s σ H _ I h) fun us s1 ⟨vs, H1, I1, r, q⟩ => ⟨I1.kIn, ?_⟩) he hpl
  exact run_makeS M F hr hb (hx σ) I1 r q
end
end L2
namespace DL
open PySem L2
structure Mx (P : Program) (w : World) (K : PySem.W.Frag) (mg : Str → Option Value) (base : Heap) (k : Nat) (x : Str) (C : Addr) (sp : Sp) : Prop where
  ex : ∃ (f : Addr) (fd : FuncData) (ps : List Str), Mk K C f ∧ FnOk P w K mg base (L2.CX P w) k f fd ps sp ∧ mg x = some (.ref C) ∧ Binds K fd ps []
theorem Mx.of {P : Program} {w : World} {K : PySem.W.Frag} {mg : Str → Option Value} {base : Heap} {k : Nat} {x : Str} {C fa : Addr} {fd : FuncData} {ps : List Str} {sp : Sp} (M : Mk K C fa) (h : FnOk P w K mg base (L2.CX P w) k fa fd ps sp) (hm : mg x = some (.ref C)) (b : Binds K fd ps []) : Mx P w K mg base k x C sp := ⟨fa, fd, ps, M, h, hm, b⟩
section
variable {X : Cx} {W : WX} {k j : Nat} {x : Str} {C : Addr} {sp : Sp} {p pos : Pos} {e : Expr} {es : List Expr} {t : TA}
theorem pe_mx (c : Mx X.prog X.w X.K X.mg X.base k x C sp) (tk : Takes X W) (hr : Room j X.A) (hk : k + 1 ≤ j) (hg : Gl X x) (ha : PA X (e :: es) t)
    (hdb : (x == ("__debug__" : Str)) = false := by decide) (he : starEach (e :: es) X.env = (false, eval e X.env) :: starEach es X.env := by rfl) (hpl : (backTo pos (starEach es X.env)).any (·.1) = false := by rfl) :
    PE X (.Call (.Name x p) (e :: es) [] pos) (tMakeS C sp (WE W) t) := by
  obtain ⟨f, fd, ps, M, F, hm, b⟩ := c.ex
  exact pe_makeS M F (hr.mono hk) hg hm b (fun σ => passAt tk σ) ha hdb he hpl
/-- .. and does not raise, where it is made -/
theorem pe_mx0 (c : Mx X.prog X.w X.K X.mg X.base k x C sp) (hr : Room j X.A) (hk : k + 1 ≤ j) (hg : Gl X x) (ha : PA X (e :: es) t)
    (hdb : (x == ("__debug__" : Str)) = false := by decide) (he : starEach (e :: es) X.env = (false, eval e X.env) :: starEach es X.env := by rfl) (hpl : (backTo pos (starEach es X.env)).any (·.1) = false := by rfl) :
    PE X (.Call (.Name x p) (e :: es) [] pos) (tMake C sp [] E0 t) := by
  obtain ⟨f, fd, ps, M, F, hm, b⟩ := c.ex
  exact pe_make M F (hr.mono hk) hg hm b .nil passL ha hdb he hpl
end
section
variable {K : PySem.W.Frag} {pr : List Nat} {W : WX} {ts : TA} {env e1 : Env} {rs : List Res} {ds : List D} {Cc Ce : Addr} {fs : List (Str × D)} {b : Bs} {F1 H1 : Hp} {oa : Nat → Addr} {σ : L2.St} {vs : List V} {x dx : Addr}
theorem make_args (S1 : Sig K b F1 oa σ H1 e1) (p : RepL K F1 vs ds) (hx : H1 x = none) (hdx : H1 dx = none) (hne : dx ≠ x) :
    Ex F1 (upd (upd H1 dx (.own x)) x (.ins Cc dx [])) ∧ ArgsR K F1 (upd (upd H1 dx (.own x)) x (.ins Cc dx [])) (.ref x :: vs) (.own (.obj Cc []) :: ds.map AV.val) := by
  have ex1 : Ex H1 (upd (upd H1 dx (.own x)) x (.ins Cc dx [])) := (Ex.new hdx).trans (Ex.new (by rw [upd_ne (Ne.symm hne)]; exact hx))
  have nF : F1 x = none := S1.g.fh.back hx
  have lv := p.length
  refine ⟨S1.g.fh.trans ex1, ⟨?_, fun i d' hi => ?_, fun i o hi => ?_, fun i j o u a h1 h2 _ _ => ?_⟩⟩
  · rw [List.length_cons, List.length_cons, List.length_map, lv]
  · cases i with
    | zero => rw [List.getElem?_cons_zero] at hi; cases hi
    | succ i =>
      rw [List.getElem?_cons_succ, List.getElem?_map] at hi
      obtain ⟨d2, h2, h3⟩ := Option.map_eq_some_iff.mp hi
      cases h3
      obtain ⟨u, u1, u2⟩ := p.get h2
      exact ⟨u, by rw [List.getElem?_cons_succ]; exact u1, u2⟩
  · cases i with
    | zero =>
      rw [List.getElem?_cons_zero] at hi
      cases hi
      exact ⟨x, rfl, nF, dx, [], [], [], by rw [upd_same]; rfl, rfl, .nil, rfl⟩
    | succ i => rw [List.getElem?_cons_succ] at hi; exact absurd hi vals_noOwn
  · cases i with
    | zero =>
      cases j with
      | zero => rfl
      | succ j => rw [List.getElem?_cons_succ] at h2; exact absurd h2 vals_noOwn
    | succ i => rw [List.getElem?_cons_succ] at h1; exact absurd h1 vals_noOwn
theorem make_end {F' H' : Hp} {v : V} {o' : OB} {r : Ret} (S1 : Sig K b F1 oa σ H1 e1) (hx : H1 x = none) (hdx : H1 dx = none) (hne : dx ≠ x)
    (ce : CallEnd K F1 (upd (upd H1 dx (.own x)) x (.ins Cc dx [])) F' H' (.ref x :: vs) (.own (.obj Cc []) :: ds.map AV.val) (.own o' :: ds.map AV.val) v r) :
    Grow F1 H1 F' H' ∧ Stp oa e1 F1 H1 e1 F' H' ∧ F' x = none ∧ ORep K F' H' x o' := by
  have ex1 : Ex H1 (upd (upd H1 dx (.own x)) x (.ins Cc dx [])) := (Ex.new hdx).trans (Ex.new (by rw [upd_ne (Ne.symm hne)]; exact hx))
  have hown : ∀ a, ownA (.ref x :: vs) (.own (.obj Cc []) :: ds.map AV.val) a → a = x := fun a ⟨i, o, h1, h2⟩ => by
    cases i with
    | zero => rw [List.getElem?_cons_zero] at h2; cases h2; rfl
    | succ i => rw [List.getElem?_cons_succ] at h1; exact absurd h1 vals_noOwn
  have gh : Ex H1 H' := fun a u hu => ce.kp a u (ex1 a u hu) fun z => by
    rw [hown a z, hx] at hu; cases hu
  obtain ⟨o2, a, c1, c2, c3, c4⟩ := ce.own 0 (.obj Cc []) rfl
  rw [List.getElem?_cons_zero] at c1 c2
  cases c1
  cases c2
  have G : Grow F1 H1 F' H' := ⟨ce.ff, gh, ce.fh, fun a h => by
    rcases ce.gn a h with z | z
    · exact .inl z
    · exact .inr (ex1.back z)⟩
  have th : ∀ a, H1 a ≠ none → H' a ≠ none := fun a h z => by
    cases q : H1 a with
    | none => exact h q
    | some u => rw [gh a u q] at z; cases z
  exact ⟨G, ⟨ce.ff, fun a u hu _ => gh a u hu, G.gn, th, fun j o e => ⟨o, e⟩⟩, c3, c4⟩
theorem en_makeS {g : OB → List D → Ret → OB → Prop} (h : EvA K ts env rs e1) (hv : vals rs = some ds) (hf : g (.obj Cc []) ds (.val .non) (.obj Cc fs)) : EvN K (tMakeS Cc (SpG K (PO g)) (WE W) ts) env (.obj Cc fs) e1 := fun b F oa σ H S Q k =>
  h b F oa σ H S _ fun vs F1 H1 S1 g1 q1 => by
    have p := vals_rep q1 hv
    intro x dx hx hdx hne
    obtain ⟨m1, m2⟩ := make_args (Cc := Cc) S1 p hx hdx hne
    refine ⟨F1, _, .val .non, .own (.obj Cc fs) :: ds.map AV.val, m1, m2, ⟨_, ds, _, rfl, rfl, hf⟩, fun v F' H' ce => ?_⟩
    obtain ⟨G, sub, c3, c4⟩ := make_end S1 hx hdx hne ce
    have hnon : v = .non := by
      have := ce.ret
      cases this
      rfl
    exact ⟨hnon, k x F' H' (S1.grow G) (g1.trans sub) (g1.none hx) ⟨c3, S1.g.gh.back hx, fun j u e => S1.ne hx e, fun j e => (S1.fix j x e).2 hx, c4⟩⟩
theorem ex_makeS {g : OB → List D → Ret → OB → Prop} {o' : OB} (h : EvA K ts env rs e1) (hv : vals rs = some ds) (hf : g (.obj Cc []) ds (.exc Ce) o') : EvX K W (tMakeS Cc (SpG K (PO g)) (WE W) ts) env Ce e1 := fun b F oa σ H S w Q =>
  h b F oa σ H S _ fun vs F1 H1 S1 g1 q1 => by
    have p := vals_rep q1 hv
    intro x dx hx hdx hne
    obtain ⟨m1, m2⟩ := make_args (Cc := Cc) S1 p hx hdx hne
    refine ⟨F1, _, .exc Ce, .own o' :: ds.map AV.val, m1, m2, ⟨_, ds, _, rfl, rfl, hf⟩, fun v F' H' ce => ?_⟩
    obtain ⟨G, sub, c3, c4⟩ := make_end S1 hx hdx hne ce
    exact w F' H' (S1.grow G) (g1.ff.trans sub.ff)
end
section
variable {P : Program} {w : World} {K : PySem.W.Frag} {mg : Str → Option Value} {base : Heap} {x qn : Str} {st : Stmt} {fa : Addr} {fd : FuncData} {N ps : List Str} {k : Nat}
/-- a def that changes its first argument and may raise -/
theorem Fn.ofP {f : OB → List D → Ret → OB → Prop} (F : Fun K x qn st fa fd) (S : FnScope N ps (defScope st)) (hn : ∀ o ds r o', f o ds r o' → ds.length + 1 = ps.length)
    (body : ∀ (cdv : Value) (A : Around) (outer : List PySem.Env) (s : Shared) (H : Hp) (E : XK), Room k (A.deeper (PyProof.Rows.envOfC qn (defScope st) s.heap.objs.size fa cdv)) →
      ∃ t, PSs (cxOf (L2.CX P w) P w K mg base N qn (defScope st) fa cdv A outer s H E) (defBody st) t ∧ ∀ o ds r o', f o ds r o' → Exec K [0] (fun cls d _ H => E cls d H) t (EV.own o :: ds.map EV.val ++ List.replicate (N.length - ps.length) .any)
      (fun e => r = .val .non ∧ e[0]? = some (.own o')) (fun _ => False) (fun _ => False) (fun q e => q = r ∧ e[0]? = some (.own o'))) : FnOk P w K mg base (L2.CX P w) (k + 1) fa fd ps (SpG K (PO f)) :=
  F.okX S (fun vs H Q E h => spG_len (fun as r as' ⟨o, ds, o', h1, _, h4⟩ => by rw [h1, List.length_cons, List.length_map]; exact hn o ds r o' h4) h) fun cdv A outer s H vs Q E hr h => by
    obtain ⟨t, h1, h2⟩ := body cdv A outer s H E hr
    have hpl : ps.length ≤ N.length := by have := congrArg List.length S.pre; rw [List.length_take] at this; omega
    refine ⟨t, h1, run_SpG h (fun as r as' ⟨o, ds, o', h1, _, h4⟩ => ⟨by rw [h1, List.length_cons, List.length_map]; exact hn o ds r o' h4, hpl⟩) fun as r as' ⟨o, ds, o', e1, e2, hf⟩ => ⟨[0], fun i ob h => ?_, ?_⟩⟩
    · subst e1
      cases i with
      | zero => exact List.mem_cons_self
      | succ i => rw [List.getElem?_cons_succ] at h; exact absurd h vals_noOwn
    subst e1 e2
    have held : ∀ e : Env, e[0]? = some (.own o') → Held (.own o :: ds.map AV.val) (.own o' :: ds.map AV.val) e := fun e he i ob h => by
      cases i with
      | zero => exact ⟨o', rfl, he⟩
      | succ i => rw [List.getElem?_cons_succ] at h; exact absurd h vals_noOwn
    have em : (AV.own o :: ds.map AV.val).map AV.ev = EV.own o :: ds.map EV.val := by rw [List.map_cons, List.map_map]; rfl
    rw [em]
    exact x_mono (h2 o ds r o' hf) (fun e h => ⟨h.1, held e h.2⟩) (fun _ h => h) (fun _ h => h) fun q e h => ⟨h.1, held e h.2⟩
end
end DL

namespace DL
open PySem L2
/-! ### rows of bits, in plain Lean -/
def gathA (a : Int) (l : List Int) : Int := l.foldl (fun n b => 2 * n + b) a
def gath (l : List Int) : Int := gathA 0 l
def bitsN (n : Int) (m : Nat) : List Int := (List.range m).map fun p => n / 2 ^ (m - 1 - p) % 2
def Bits (l : List Int) : Prop := ∀ b, b ∈ l → b = 0 ∨ b = 1
theorem Bits.nil : Bits [] := fun _ h => by cases h
theorem Bits.append {l m : List Int} (h1 : Bits l) (h2 : Bits m) : Bits (l ++ m) := fun b h => by
  rcases List.mem_append.mp h with q | q
  · exact h1 b q
  · exact h2 b q
theorem gathA_append {a : Int} {l m : List Int} : gathA a (l ++ m) = gathA (gathA a l) m := by unfold gathA; rw [List.foldl_append]
theorem gath_snoc {l : List Int} {b : Int} : gath (l ++ [b]) = 2 * gath l + b := by unfold gath; rw [gathA_append]; rfl
theorem gathA_lin : ∀ (l : List Int) (a : Int), gathA a l = a * 2 ^ l.length + gath l
  | [], a => by simp [gathA, gath]
  | b :: l, a => by
    show gathA (2 * a + b) l = _
    have e : gath (b :: l) = gathA (2 * 0 + b) l := rfl
    rw [e, gathA_lin l (2 * a + b), gathA_lin l (2 * 0 + b), List.length_cons, Int.pow_succ]
    generalize (2 : Int) ^ l.length = p
    rw [Int.add_mul, Int.add_mul, Int.mul_comm 2 a, Int.mul_assoc, Int.mul_comm 2 p]
    omega
theorem gath_append {l m : List Int} : gath (l ++ m) = gath l * 2 ^ m.length + gath m := by
  unfold gath
  rw [gathA_append]
  exact gathA_lin m _
theorem gath_range : ∀ (n : Nat) (l : List Int), l.length = n → Bits l → 0 ≤ gath l ∧ gath l < 2 ^ n
  | 0, l, h, _ => by
    have : l = [] := List.eq_nil_of_length_eq_zero h
    subst this
    exact ⟨by decide, by decide⟩
  | n + 1, l, h, hb => by
    rcases List.eq_nil_or_concat l with e | ⟨i, b, e⟩
    · subst e; cases h
    · rw [e, List.concat_eq_append] at h hb ⊢
      have hl : i.length = n := by simpa using h
      obtain ⟨h1, h2⟩ := gath_range n i hl fun b q => hb b (List.mem_append_left _ q)
      have hb := hb b (List.mem_append_right _ List.mem_cons_self)
      rw [gath_snoc, Int.pow_succ]
      omega
theorem gath_in {l : List Int} (h : Bits l) : 0 ≤ gath l ∧ gath l < 2 ^ l.length := gath_range _ l rfl h
theorem bitsN_len {n : Int} {m : Nat} : (bitsN n m).length = m := by simp [bitsN]
theorem bitsN_bits {n : Int} {m : Nat} : Bits (bitsN n m) := fun b h => by
  unfold bitsN at h
  obtain ⟨p, _, rfl⟩ := List.mem_map.mp h
  have : ∀ x : Int, x % 2 = 0 ∨ x % 2 = 1 := fun x => by omega
  exact this _
theorem pow_pos2 (k : Nat) : (0 : Int) < 2 ^ k := Int.pow_pos (by decide)
theorem bitsN_succ {n : Int} {m : Nat} : bitsN n (m + 1) = bitsN (n / 2) m ++ [n % 2] := by
  unfold bitsN
  rw [List.range_succ, List.map_append]
  congr 1
  · apply List.map_congr_left
    intro p hp
    have hp := List.mem_range.mp hp
    have e : m + 1 - 1 - p = (m - 1 - p) + 1 := by omega
    rw [e, Int.pow_succ, Int.mul_comm, ← Int.ediv_ediv_of_nonneg (by decide)]
  · simp
theorem gath_bitsN : ∀ (m : Nat) (n : Int), gath (bitsN n m) = n % 2 ^ m
  | 0, n => by
    show (0 : Int) = n % 1
    omega
  | m + 1, n => by
    rw [bitsN_succ, gath_snoc, gath_bitsN m, Int.pow_succ]
    have hp := pow_pos2 m
    generalize (2 : Int) ^ m = p at hp ⊢
    have h1 : n = 2 * (n / 2) + n % 2 := by omega
    have h2 := Int.mul_ediv_add_emod (n / 2) p
    have h3 := Int.emod_nonneg (n / 2) (show p ≠ 0 by omega)
    have h4 := Int.emod_lt_of_pos (n / 2) hp
    have e : n % (p * 2) = (2 * (n / 2 % p) + n % 2 + p * 2 * (n / 2 / p)) % (p * 2) := by
      congr 1
      have : p * 2 * (n / 2 / p) = 2 * (p * (n / 2 / p)) := by rw [Int.mul_comm p 2, Int.mul_assoc]
      omega
    have e2 : (2 * (n / 2 % p) + n % 2 + p * 2 * (n / 2 / p)) % (p * 2) = 2 * (n / 2 % p) + n % 2 := by
      rw [Int.add_mul_emod_self_left]
      exact Int.emod_eq_of_lt (by omega) (by omega)
    exact (e.trans e2).symm
theorem bitsN_gath : ∀ (m : Nat) (l : List Int), l.length = m → Bits l → bitsN (gath l) m = l
  | 0, l, h, _ => by
    have : l = [] := List.eq_nil_of_length_eq_zero h
    subst this; rfl
  | m + 1, l, h, hb => by
    rcases List.eq_nil_or_concat l with e | ⟨i, b, e⟩
    · subst e; cases h
    · rw [e, List.concat_eq_append] at h hb ⊢
      have hl : i.length = m := by simpa using h
      have ih := bitsN_gath m i hl fun b q => hb b (List.mem_append_left _ q)
      have hb := hb b (List.mem_append_right _ List.mem_cons_self)
      rw [bitsN_succ, gath_snoc]
      have e1 : (2 * gath i + b) / 2 = gath i := by omega
      have e2 : (2 * gath i + b) % 2 = b := by omega
      rw [e1, e2, ih]
theorem bitsN_add : ∀ (m k : Nat) (n : Int), bitsN n (k + m) = bitsN (n / 2 ^ m) k ++ bitsN n m
  | 0, k, n => by
    show bitsN n k = bitsN (n / 1) k ++ []
    rw [Int.ediv_one, List.append_nil]
  | m + 1, k, n => by
    rw [show k + (m + 1) = (k + m) + 1 by omega, bitsN_succ, bitsN_add m k, bitsN_succ, ← List.append_assoc, Int.pow_succ, Int.mul_comm, Int.ediv_ediv_of_nonneg (by decide)]
theorem bitsN_zero : ∀ m : Nat, bitsN 0 m = List.replicate m 0
  | 0 => rfl
  | m + 1 => by
    rw [bitsN_succ, show (0 : Int) / 2 = 0 from rfl, bitsN_zero m, List.replicate_succ']
    rfl
theorem bitAnd1 {x : Int} : Builtin.bitAnd x 1 = x % 2 := by
  have h := PySem.W.kbt_mask x 1
  exact h
theorem bitOr_bit {n b : Int} (h : 0 ≤ n) (hb : b = 0 ∨ b = 1) : Builtin.bitOr (n * 2 ^ 1) b = 2 * n + b := by
  rw [or_low (k := 1) h (by omega) (by omega)]
  omega
/-! bytes in bits -/
def Bytes (l : List Int) : Prop := ∀ b, b ∈ l → 0 ≤ b ∧ b ≤ 255
def bitsOf (l : List Int) : List Int := (l.map fun b => bitsN b 8).flatten
def val (l : List Int) : Int := l.foldl (fun n b => n * 256 + b) 0
theorem bitsOf_cons {b : Int} {l : List Int} : bitsOf (b :: l) = bitsN b 8 ++ bitsOf l := rfl
theorem bitsOf_append {l m : List Int} : bitsOf (l ++ m) = bitsOf l ++ bitsOf m := by unfold bitsOf; rw [List.map_append, List.flatten_append]
theorem bitsOf_len : ∀ l : List Int, (bitsOf l).length = 8 * l.length
  | [] => rfl
  | b :: l => by rw [bitsOf_cons, List.length_append, bitsN_len, bitsOf_len l, List.length_cons]; omega
theorem bitsOf_bits : ∀ l : List Int, Bits (bitsOf l)
  | [] => Bits.nil
  | b :: l => by rw [bitsOf_cons]; exact bitsN_bits.append (bitsOf_bits l)
theorem bitsOf_at : ∀ (l : List Int) (k : Nat), k < l.length → ((bitsOf l).drop (8 * k)).take 8 = bitsN (l.getD k 0) 8
  | [], k, h => by simp at h
  | b :: l, 0, h => by
    rw [bitsOf_cons]
    show (bitsN b 8 ++ bitsOf l).take 8 = bitsN b 8
    rw [List.take_append_of_le_length (by rw [bitsN_len]; omega), List.take_of_length_le (by rw [bitsN_len]; omega)]
  | b :: l, k + 1, h => by
    rw [bitsOf_cons, show 8 * (k + 1) = 8 + 8 * k by omega, ← List.drop_drop]
    have e : (bitsN b 8 ++ bitsOf l).drop 8 = bitsOf l := by
      rw [List.drop_append_of_le_length (by rw [bitsN_len]; omega), List.drop_of_length_le (by rw [bitsN_len]; omega), List.nil_append]
    rw [e, bitsOf_at l k (by simpa using h)]
    rfl
theorem byte_back {b : Int} (h : 0 ≤ b ∧ b ≤ 255) : gath (bitsN b 8) = b := by
  rw [gath_bitsN]
  omega
theorem val_snoc {l : List Int} {b : Int} : val (l ++ [b]) = val l * 256 + b := by unfold val; rw [List.foldl_append]; rfl
theorem gath_bitsOf : ∀ (n : Nat) (l : List Int), l.length = n → Bytes l → gath (bitsOf l) = val l
  | 0, l, h, _ => by
    have : l = [] := List.eq_nil_of_length_eq_zero h
    subst this; rfl
  | n + 1, l, h, hb => by
    rcases List.eq_nil_or_concat l with e | ⟨i, b, e⟩
    · subst e; cases h
    · rw [e, List.concat_eq_append] at h hb ⊢
      have hl : i.length = n := by simpa using h
      have hb' := hb b (List.mem_append_right _ List.mem_cons_self)
      rw [bitsOf_append, gath_append, gath_bitsOf n i hl fun b q => hb b (List.mem_append_left _ q), val_snoc]
      have e : bitsOf [b] = bitsN b 8 := by rw [bitsOf_cons]; show bitsN b 8 ++ [] = _; rw [List.append_nil]
      rw [e, bitsN_len, byte_back hb']
      omega
/-- eight bits at a time -/
def dataOf (l : List Int) : List Int := (List.range (l.length / 8)).map fun k => gath ((l.drop (8 * k)).take 8)
theorem dataOf_bitsOf {l : List Int} (h : Bytes l) : dataOf (bitsOf l) = l := by
  unfold dataOf
  rw [bitsOf_len, show 8 * l.length / 8 = l.length by omega]
  apply List.ext_getElem
  · simp
  · intro k h1 h2
    rw [List.getElem_map, List.getElem_range, bitsOf_at l k h2, List.getD_eq_getElem?_getD, List.getElem?_eq_getElem h2]
    exact byte_back (h _ (List.getElem_mem h2))
theorem bitsOf_val {l : List Int} (h : Bytes l) : bitsN (val l) (8 * l.length) = bitsOf l := by
  rw [← gath_bitsOf _ l rfl h]
  exact bitsN_gath _ _ (bitsOf_len l) (bitsOf_bits l)
theorem val_in {l : List Int} (h : Bytes l) : 0 ≤ val l ∧ val l < 2 ^ (8 * l.length) := by
  have := gath_in (bitsOf_bits l)
  rw [gath_bitsOf _ l rfl h, bitsOf_len] at this
  exact this
end DL
namespace DL
open PySem L2
theorem ei_is {K : PySem.W.Frag} {wi : TI} {env e1 : Env} {ds ds' : List D} (h : EvI K wi env ds e1) (q : ds = ds') : EvI K wi env ds' e1 := q ▸ h
theorem sIx_some {n d : Nat} {v : Int} (h : 0 ≤ v) : HT.sIx n d (some v) = min v.toNat n := by
  show (if v < 0 then (v + (n : Int)).toNat else min v.toNat n) = _
  rw [if_neg (by omega)]
/-- xs[lo:hi], both told and within -/
theorem cut_in {α : Type} {l : List α} {lo hi : Int} (h0 : 0 ≤ lo) (h1 : lo ≤ hi) (h2 : hi ≤ (l.length : Int)) : cutD l (some lo) (some hi) = (l.drop lo.toNat).take (hi - lo).toNat := by
  unfold cutD
  rw [sIx_some h0, sIx_some (by omega), Nat.min_eq_left (by omega), Nat.min_eq_left (by omega)]
  congr 1
  omega
/-- xs[:n], xs[n:] -/
theorem cut_to {α : Type} {l : List α} {hi : Int} (h0 : 0 ≤ hi) : cutD l none (some hi) = l.take hi.toNat := by
  unfold cutD
  rw [sIx_some h0]
  show (l.drop 0).take (min hi.toNat l.length - 0) = _
  rw [List.drop_zero, Nat.sub_zero, ← List.take_eq_take_min]
theorem cut_from {α : Type} {l : List α} {lo : Int} (h0 : 0 ≤ lo) : cutD l (some lo) none = l.drop lo.toNat := by
  unfold cutD
  rw [sIx_some h0]
  show (l.drop (min lo.toNat l.length)).take (l.length - _) = _
  by_cases h : lo.toNat ≤ l.length
  · rw [Nat.min_eq_left h, List.take_of_length_le (by rw [List.length_drop]; omega)]
  · rw [Nat.min_eq_right (by omega), List.drop_length, List.take_nil, List.drop_of_length_le (by omega)]
end DL

namespace DL
open PySem L2
/-! ### packets, in plain Lean -/
def wAt (l : List Int) (p : Nat) : Int := l.getD p 0 * 256 + l.getD (p + 1) 0
def tots (l : List Int) : Nat → Int
  | 0 => 0
  | n + 1 => tots l n + wAt l (2 * n)
def fin (t : Int) : Int := if t = 0 then 0 else (t - 1) % 65535 + 1
def sumF (l : List Int) : Int := 65535 - fin (tots l 6)
theorem wAt_in {l : List Int} (h : Bytes l) (p : Nat) : 0 ≤ wAt l p ∧ wAt l p ≤ 65535 := by
  have g : ∀ i, 0 ≤ l.getD i 0 ∧ l.getD i 0 ≤ 255 := fun i => by
    rw [List.getD_eq_getElem?_getD]
    cases q : l[i]? with
    | none => exact ⟨by decide, by decide⟩
    | some b => exact h b (List.mem_of_getElem? q)
  have h1 := g p
  have h2 := g (p + 1)
  unfold wAt
  omega
theorem tots_in {l : List Int} (h : Bytes l) : ∀ n : Nat, 0 ≤ tots l n ∧ tots l n ≤ 65535 * n
  | 0 => ⟨Int.le_refl _, by show (0 : Int) ≤ _; omega⟩
  | n + 1 => by
    have h1 := tots_in h n
    have h2 := wAt_in h (2 * n)
    show 0 ≤ tots l n + wAt l (2 * n) ∧ tots l n + wAt l (2 * n) ≤ _
    omega
theorem fin_step {t : Int} (h : 65535 < t) (h2 : t ≤ 1000000) : fin (t / 65536 + t % 65536) = fin t ∧ t / 65536 + t % 65536 < t ∧ 0 ≤ t / 65536 + t % 65536 := by
  unfold fin
  rw [if_neg (by omega), if_neg (by omega)]
  omega
theorem fin_small {t : Int} (h0 : 0 ≤ t) (h : t ≤ 65535) : fin t = t := by
  unfold fin
  split <;> omega
theorem fin_in {t : Int} (h0 : 0 ≤ t) : 0 ≤ fin t ∧ fin t ≤ 65535 := by
  unfold fin
  split <;> omega
/-- a packet -/
structure Pk where
  s : Int
  t : Int
  k : Int
  l : Int
  n : Int
  f : Int
  m : Bool
  d : List Int
deriving DecidableEq
structure Pk.Ok (p : Pk) : Prop where
  hs : 0 ≤ p.s ∧ p.s ≤ 255
  ht : 0 ≤ p.t ∧ p.t ≤ 255
  hk : 0 ≤ p.k ∧ p.k ≤ 255
  hl : 0 ≤ p.l ∧ p.l ≤ 255
  hn : 0 ≤ p.n ∧ p.n ≤ 65535
  hf : 0 ≤ p.f ∧ p.f ≤ 1000
  hd : Bytes p.d
  hz : (p.d.length : Int) + p.f ≤ 1000
def Pk.args (p : Pk) : List D := [.int p.s, .int p.t, .int p.k, .int p.l, .int p.n, .int p.f, .bl p.m, .tup (p.d.map D.int)]
def Pk.fs (p : Pk) : List (Str × D) := [("source", .int p.s), ("target", .int p.t), ("kind", .int p.k), ("life", .int p.l), ("name", .int p.n), ("first", .int p.f), ("more", .bl p.m), ("data", .tup (p.d.map D.int))]
def Pk.mi (p : Pk) : Int := if p.m then 1 else 0
def Pk.hd12 (p : Pk) : List Int := [p.k, p.l, p.s, p.t, p.n / 256, p.n % 256, p.f / 256, p.f % 256, p.mi, 0, (p.d.length : Int) / 256, (p.d.length : Int) % 256]
def Pk.row (p : Pk) : List Int := p.hd12 ++ [sumF p.hd12 / 256, sumF p.hd12 % 256] ++ p.d
theorem Pk.Ok.bytes12 {p : Pk} (h : p.Ok) : Bytes p.hd12 := fun b hb => by
  obtain ⟨h1, h2, h3, h4, h5, h6, h7, h8⟩ := h
  have hm : p.mi = 0 ∨ p.mi = 1 := by unfold Pk.mi; cases p.m <;> simp
  simp only [Pk.hd12, List.mem_cons, List.mem_nil_iff, or_false] at hb
  rcases hb with q | q | q | q | q | q | q | q | q | q | q | q <;> subst q <;> omega
theorem Pk.Ok.sum_in {p : Pk} (h : p.Ok) : 0 ≤ sumF p.hd12 ∧ sumF p.hd12 ≤ 65535 := by
  have h1 := tots_in h.bytes12 6
  have h2 := fin_in h1.1
  unfold sumF
  omega
theorem Pk.Ok.bytes {p : Pk} (h : p.Ok) : Bytes p.row := fun b hb => by
  have := h.sum_in
  rcases List.mem_append.mp hb with hb | hb
  · rcases List.mem_append.mp hb with hb | hb
    · exact h.bytes12 b hb
    · simp only [List.mem_cons, List.mem_nil_iff, or_false] at hb
      rcases hb with q | q <;> subst q <;> omega
  · exact h.hd b hb
theorem Pk.row_len {p : Pk} : p.row.length = 14 + p.d.length := by
  unfold Pk.row
  rw [List.length_append, List.length_append]
  rfl
theorem tots_same {l m : List Int} (h : ∀ i, i < 12 → l.getD i 0 = m.getD i 0) : ∀ n : Nat, n ≤ 6 → tots l n = tots m n
  | 0, _ => rfl
  | n + 1, hn => by
    show tots l n + wAt l (2 * n) = tots m n + wAt m (2 * n)
    rw [tots_same h n (by omega)]
    unfold wAt
    rw [h _ (by omega), h _ (by omega)]
theorem sum_row {p : Pk} : sumF p.row = sumF p.hd12 := by
  unfold sumF
  rw [tots_same (l := p.row) (m := p.hd12) (fun i hi => ?_) 6 (Nat.le_refl _)]
  unfold Pk.row
  rw [List.getD_eq_getElem?_getD, List.getD_eq_getElem?_getD, List.append_assoc, List.getElem?_append_left (by show i < 12; exact hi)]
theorem Pk.inj {p q : Pk} (h1 : p.Ok) (h2 : q.Ok) (h : p.row = q.row) : p = q := by
  obtain ⟨s, t, k, l, n, f, m, d⟩ := p
  obtain ⟨s', t', k', l', n', f', m', d'⟩ := q
  have hm : ∀ x : Bool, (if x then (1 : Int) else 0) = if x then 1 else 0 := fun _ => rfl
  simp only [Pk.row, Pk.hd12, Pk.mi, List.cons_append, List.nil_append, List.cons.injEq] at h
  obtain ⟨e1, e2, e3, e4, e5, e6, e7, e8, e9, _, _, _, _, _, e10⟩ := h
  have en : n = n' := by omega
  have ef : f = f' := by omega
  have em : m = m' := by cases m <;> cases m' <;> simp at e9 <;> rfl
  subst e1 e2 e3 e4 en ef em e10
  rfl
theorem pk_args_eq {p q : Pk} : eqD (.tup p.args) (.tup q.args) = some (decide (p = q)) := by
  have pa : ∀ p : Pk, pl 60 (.tup p.args) = true := fun p => by
    unfold pl Pk.args
    simp [plL, pl, plL_ints]
  rw [eqD_pl (pa p) (pa q), eqB_tup]
  obtain ⟨s, t, k, l, n, f, m, d⟩ := p
  obtain ⟨s', t', k', l', n', f', m', d'⟩ := q
  show some (eqL [.int s, .int t, .int k, .int l, .int n, .int f, .bl m, .tup (d.map D.int)] [.int s', .int t', .int k', .int l', .int n', .int f', .bl m', .tup (d'.map D.int)]) = _
  simp only [eqL_cc, eqL_nil, eqB_int, eqB_bl, eqB_tup, eqL_ints, Pk.mk.injEq]
  congr 1
  rw [Bool.eq_iff_iff]
  simp
def setD (l : List Int) (a : Nat) (b : Int) : List Int := l.take a ++ [b] ++ l.drop (a + 1)
theorem setD_get {l : List Int} {a : Nat} {b : Int} (h : a < l.length) (i : Nat) : (setD l a b).getD i 0 = if i = a then b else l.getD i 0 := by
  have e : setD l a b = l.set a b := by
    unfold setD
    rw [List.set_eq_take_append_cons_drop, if_pos h, List.append_assoc]; rfl
  rw [e, List.getD_eq_getElem?_getD, List.getD_eq_getElem?_getD, List.getElem?_set]
  by_cases q : i = a
  · subst q
    rw [if_pos rfl, if_pos rfl, if_pos h]; rfl
  · rw [if_neg (Ne.symm q), if_neg q]
theorem tots_all {l : List Int} : tots l 6 = wAt l 0 + wAt l 2 + wAt l 4 + wAt l 6 + wAt l 8 + wAt l 10 := by
  simp [tots]
theorem fin_ne {t u : Int} (ht : 0 ≤ t) (hu : 0 ≤ u) (hd : t ≠ u) (h1 : t - u ≤ 65280) (h2 : u - t ≤ 65280) : fin t ≠ fin u := by
  unfold fin
  split <;> split <;> omega
theorem row_sum {p : Pk} (h : p.Ok) : wAt p.row 12 = sumF p.row := by
  have := h.sum_in
  rw [sum_row]
  show sumF p.hd12 / 256 * 256 + sumF p.hd12 % 256 = _
  omega
theorem byte_bad {p : Pk} (h : p.Ok) {a : Nat} {b : Int} (ha : a < 14) (hb : b ≠ p.row.getD a 0) (hb2 : 0 ≤ b ∧ b ≤ 255) : wAt (setD p.row a b) 12 ≠ sumF (setD p.row a b) := by
  have hl : a < p.row.length := by rw [Pk.row_len]; omega
  have hg := setD_get (b := b) hl
  have hs := row_sum h
  have hby := h.bytes
  have g : ∀ i, 0 ≤ p.row.getD i 0 ∧ p.row.getD i 0 ≤ 255 := fun i => by
    rw [List.getD_eq_getElem?_getD]
    cases q : p.row[i]? with
    | none => exact ⟨by decide, by decide⟩
    | some b => exact hby b (List.mem_of_getElem? q)
  have hby2 : ∀ i, 0 ≤ (setD p.row a b).getD i 0 ∧ (setD p.row a b).getD i 0 ≤ 255 := fun i => by
    rw [hg]
    split
    · exact hb2
    · exact g i
  have t0 := tots_in hby 6
  generalize hrow : p.row = r at hg hs g hb t0 hby2 hl
  generalize setD r a b = r' at hg hby2
  have w' : ∀ j, 0 ≤ wAt r' j := fun j => by
    have h1 := hby2 j
    have h2 := hby2 (j + 1)
    unfold wAt; omega
  have t1 : 0 ≤ tots r' 6 := by
    rw [tots_all]
    have := w' 0; have := w' 2; have := w' 4; have := w' 6; have := w' 8; have := w' 10
    omega
  obtain ⟨G, hG⟩ : ∃ G : Nat → Int, ∀ i, r.getD i 0 = G i := ⟨_, fun _ => rfl⟩
  have hg2 : ∀ i, r'.getD i 0 = if i = a then b else G i := fun i => by rw [hg, hG]
  have ga := g a
  rw [hG] at ga hb
  by_cases q : a < 12
  · have e12 : wAt r' 12 = wAt r 12 := by
      unfold wAt
      rw [hg, hg, if_neg (by omega), if_neg (by omega)]
    rw [e12, hs]
    unfold sumF
    intro z
    have z : fin (tots r 6) = fin (tots r' 6) := by omega
    refine fin_ne t0.1 t1 ?_ ?_ ?_ z
    all_goals
      rw [tots_all, tots_all]
      simp only [wAt, hg2, hG]
      have hc : a = 0 ∨ a = 1 ∨ a = 2 ∨ a = 3 ∨ a = 4 ∨ a = 5 ∨ a = 6 ∨ a = 7 ∨ a = 8 ∨ a = 9 ∨ a = 10 ∨ a = 11 := by omega
      rcases hc with c | c | c | c | c | c | c | c | c | c | c | c <;> subst c <;> simp <;> omega
  · have e : sumF r' = sumF r := by
      unfold sumF
      rw [tots_same (l := r') (m := r) (fun i hi => by rw [hg, if_neg (by omega)]) 6 (Nat.le_refl _)]
    rw [e, ← hs]
    simp only [wAt, hg2, hG]
    have hc : a = 12 ∨ a = 13 := by omega
    rcases hc with c | c <;> subst c <;> simp <;> omega
theorem setD_bytes {l : List Int} {a : Nat} {b : Int} (h : Bytes l) (hb : 0 ≤ b ∧ b ≤ 255) : Bytes (setD l a b) := fun x hx => by
  rcases List.mem_append.mp hx with hx | hx
  · rcases List.mem_append.mp hx with hx | hx
    · exact h x (List.mem_of_mem_take hx)
    · rw [List.mem_singleton.mp hx]; exact hb
  · exact h x (List.mem_of_mem_drop hx)
theorem setD_len {l : List Int} {a : Nat} {b : Int} (h : a < l.length) : (setD l a b).length = l.length := by
  unfold setD
  rw [List.length_append, List.length_append, List.length_take, List.length_drop]
  show _ + 1 + _ = _
  omega
def sizesF : List Int := [256, 256, 256, 256, 65536, 970]
def Pk.ints (p : Pk) : List Int := [p.s, p.t, p.k, p.l, p.n, p.f]
def Pk.setF (p : Pk) (i : Nat) (v : Int) : Pk := match i with
  | 0 => { p with s := v }
  | 1 => { p with t := v }
  | 2 => { p with k := v }
  | 3 => { p with l := v }
  | 4 => { p with n := v }
  | _ => { p with f := v }
def otherF (p : Pk) (z : Int) : Pk := p.setF (z % 6).toNat ((p.ints.getD (z % 6).toNat 0 + 1 + z / 6 % 200) % sizesF.getD (z % 6).toNat 0)
theorem setF_args {p : Pk} {i : Nat} {v : Int} (h : i < 6) : p.args.take i ++ [.int v] ++ p.args.drop (i + 1) = (p.setF i v).args := by
  rcases (by omega : i = 0 ∨ i = 1 ∨ i = 2 ∨ i = 3 ∨ i = 4 ∨ i = 5) with q | q | q | q | q | q <;> subst q <;> rfl
theorem setF_ok {p : Pk} (hp : p.Ok) (hd : p.d.length ≤ 30) {i : Nat} {v : Int} (h : i < 6) (h0 : 0 ≤ v) (h1 : v < sizesF.getD i 0) : (p.setF i v).Ok := by
  obtain ⟨a1, a2, a3, a4, a5, a6, a7, a8⟩ := hp
  rcases (by omega : i = 0 ∨ i = 1 ∨ i = 2 ∨ i = 3 ∨ i = 4 ∨ i = 5) with q | q | q | q | q | q <;> subst q
  · have h1 : v < 256 := h1
    exact ⟨⟨h0, by show v ≤ 255; omega⟩, a2, a3, a4, a5, a6, a7, a8⟩
  · have h1 : v < 256 := h1
    exact ⟨a1, ⟨h0, by show v ≤ 255; omega⟩, a3, a4, a5, a6, a7, a8⟩
  · have h1 : v < 256 := h1
    exact ⟨a1, a2, ⟨h0, by show v ≤ 255; omega⟩, a4, a5, a6, a7, a8⟩
  · have h1 : v < 256 := h1
    exact ⟨a1, a2, a3, ⟨h0, by show v ≤ 255; omega⟩, a5, a6, a7, a8⟩
  · have h1 : v < 65536 := h1
    exact ⟨a1, a2, a3, a4, ⟨h0, by show v ≤ 65535; omega⟩, a6, a7, a8⟩
  · have h1 : v < 970 := h1
    exact ⟨a1, a2, a3, a4, a5, ⟨h0, by show v ≤ 1000; omega⟩, a7, by show (p.d.length : Int) + v ≤ 1000; omega⟩
theorem otherF_ok {p : Pk} (hp : p.Ok) (hd : p.d.length ≤ 30) {z : Int} (hz : 0 ≤ z) : (otherF p z).Ok := by
  have hi : (z % 6).toNat < 6 := by omega
  have hs : 0 < sizesF.getD (z % 6).toNat 0 := by
    rcases (by omega : (z % 6).toNat = 0 ∨ (z % 6).toNat = 1 ∨ (z % 6).toNat = 2 ∨ (z % 6).toNat = 3 ∨ (z % 6).toNat = 4 ∨ (z % 6).toNat = 5) with q | q | q | q | q | q <;> rw [q] <;> decide
  exact setF_ok hp hd hi (Int.emod_nonneg _ (by omega)) (Int.emod_lt_of_pos _ hs)
end DL

namespace Kk
open PySem L2 DL
local macro_rules | `(tactic| walk_at "sd") => `(tactic| first
  | assumption
  | decide
  | omega
  | rfl
  | (simp; done)
  | (simp_all; done))
local macro_rules | `(tactic| walk_at "rd") => `(tactic| first
  | exact Or.inl (Or.inl rfl) | exact Or.inl (Or.inr rfl) | exact Or.inr rfl
  | exact Or.inl rfl | exact Or.inl ⟨_, rfl, rfl⟩ | exact Or.inl (Or.inl ⟨_, rfl, rfl⟩)
  | exact rfl | exact ⟨_, rfl, rfl⟩)
local macro_rules | `(tactic| walk_at "oe") => `(tactic| first
  | with_reducible exact oe_add | with_reducible exact oe_sub
  | ((with_reducible refine' oe_mulA ?xo1); case xo1 => first | exact Or.inl (Or.inr ⟨by decide, by decide⟩) | exact Or.inl (Or.inl ⟨by decide, by decide⟩) | exact Or.inl (Or.inl ⟨by omega, by omega⟩) | exact Or.inl (Or.inr ⟨by omega, by omega⟩) | walk_at "sd")
  | ((with_reducible refine' oe_div ?xo1); case xo1 => first | exact ⟨by decide, by decide⟩ | walk_at "sd")
  | ((with_reducible refine' oe_mod ?xo1); case xo1 => first | decide | walk_at "sd")
  | ((with_reducible refine' oe_pow ?xo1); case xo1 => first | exact ⟨by decide, by decide, by decide⟩ | walk_at "sd")
  | with_reducible exact oe_lt | with_reducible exact oe_le | with_reducible exact oe_gt | with_reducible exact oe_ge | with_reducible exact oe_eqi | with_reducible exact oe_nei | with_reducible exact oe_eqs | with_reducible exact oe_nes | with_reducible exact oe_isn | with_reducible exact oe_notn | with_reducible exact oe_isb | with_reducible exact oe_notb
  | with_reducible exact oe_band | with_reducible exact oe_bor | with_reducible exact oe_bxor
  | ((with_reducible refine' oe_shr ?xo1); case xo1 => first | decide | walk_at "sd")
  | ((with_reducible refine' oe_shl ?xo1); case xo1 => first | exact ⟨by decide +kernel, by decide +kernel⟩ | walk_at "sd")
  | ((with_reducible refine' oe_addt ?xo1); case xo1 => walk_at "sd")
  | ((with_reducible refine' oe_adds ?xo1); case xo1 => walk_at "sd")
  | ((with_reducible refine' oe_eqd ?xo1 ?xo2 ?xo3); (case xo1 => walk_at "rd"); (case xo2 => walk_at "rd"); (case xo3 => walk_at "eq"))
  | ((with_reducible refine' oe_ned ?xo1 ?xo2 ?xo3); (case xo1 => walk_at "rd"); (case xo2 => walk_at "rd"); (case xo3 => walk_at "eq"))
  | ((with_reducible refine' oe_rept ?xo1 ?xo2 ?xo3); (case xo1 => walk_at "sd"); (case xo2 => walk_at "sd"); (case xo3 => walk_at "sd"))
  | ((with_reducible refine' oe_ixt ?xo1); case xo1 => walk_at "ix")
  | ((with_reducible refine' oe_ixl ?xo1 ?xo2); (case xo1 => walk_at "rd"); (case xo2 => walk_at "ix"))
  | ((with_reducible refine' oe_ixs ?xo1 ?xo2); (case xo1 => walk_at "sd"); (case xo2 => walk_at "ix")))
local macro_rules | `(tactic| walk_at "eq") => `(tactic| first | assumption | rfl | (simp; done))
local macro_rules | `(tactic| walk_at "ix") => `(tactic| first | assumption | rfl | exact atI_nat rfl | (simp; done))
local macro_rules | `(tactic| walk_at "isi") => `(tactic| first
  | assumption
  | exact isd_non_int | exact isd_non_bool | exact isd_non_str | exact isd_non_tuple | exact isd_non_list | exact isd_non_dict | exact isd_bl_int | exact isd_bl_bool | exact isd_bl_str | exact isd_bl_tuple | exact isd_bl_list | exact isd_bl_dict | exact isd_int_int | exact isd_int_bool | exact isd_int_str | exact isd_int_tuple | exact isd_int_list | exact isd_int_dict | exact isd_str_int | exact isd_str_bool | exact isd_str_str | exact isd_str_tuple | exact isd_str_list | exact isd_str_dict | exact isd_tup_int | exact isd_tup_bool | exact isd_tup_str | exact isd_tup_tuple | exact isd_tup_list | exact isd_tup_dict | exact isd_lst_int | exact isd_lst_bool | exact isd_lst_str | exact isd_lst_tuple | exact isd_lst_list | exact isd_lst_dict | exact isd_dic_int | exact isd_dic_bool | exact isd_dic_str | exact isd_dic_tuple | exact isd_dic_list | exact isd_dic_dict | exact isd_dit_int | exact isd_dit_bool | exact isd_dit_str | exact isd_dit_tuple | exact isd_dit_list | exact isd_dit_dict)
local macro_rules | `(tactic| walk_at "ce") => `(tactic| first
  | ((with_reducible refine' ce_isi ?xc1 ?xc2); (case xc1 => walk_at "rd"); (case xc2 => walk_at "isi"))
  | ((with_reducible refine' ce_isx ?xc1 ?xc2); (case xc1 => assumption); (case xc2 => assumption))
  | ((with_reducible refine' ce_isxt ?xc1 ?xc2); (case xc1 => assumption); (case xc2 => assumption))
  | ((with_reducible refine' ce_len ?xc1); case xc1 => walk_at "rd")
  | with_reducible exact ce_abs | with_reducible exact ce_max2 | with_reducible exact ce_min2 | with_reducible exact ce_int | with_reducible exact ce_intb | with_reducible exact ce_tupt
  | ((with_reducible refine' ce_tup ?xc1); case xc1 => walk_at "rd")
  | ((with_reducible refine' ce_allm ?xc1); case xc1 => walk_at "rd")
  | ((with_reducible refine' ce_anym ?xc1); case xc1 => walk_at "rd")
  | ((with_reducible refine' ce_all ?xc1); case xc1 => walk_at "rd")
  | ((with_reducible refine' ce_any ?xc1); case xc1 => walk_at "rd")
  | ((with_reducible refine' ce_sum ?xc1); case xc1 => walk_at "rd")
  | ((with_reducible refine' ce_lens ?xc1); case xc1 => walk_at "sd"))
local macro_rules | `(tactic| walk_at "ea") => `(tactic| first
  | exact ea_nil
  | (refine' ea_cons ?xa1 ?xa2; (case xa1 => walk_at "ev"); (case xa2 => walk_at "ea")))
local macro_rules | `(tactic| walk_at "eo") => `(tactic| first
  | exact eo_none
  | (refine' eo_some ?xq1; case xq1 => walk_at "ev"))
local macro_rules | `(tactic| walk_at "et") => `(tactic| first
  | exact et_yes
  | (refine' et_test ?xt1; case xt1 => walk_at "ev")
  | (refine' et_b ?xt1; case xt1 => walk_at "ev")
  | (refine' et_not ?xt1; case xt1 => walk_at "et")
  | (refine' et_and ?xt1 ?xt2; (case xt1 => walk_at "et"); (case xt2 => (intro hk; walk_at "et")))
  | (refine' et_or ?xt1 ?xt2; (case xt1 => walk_at "et"); (case xt2 => (intro hk; walk_at "et"))))
local macro_rules | `(tactic| walk_at "en") => `(tactic| first
  | (refine' en_lst ?xn1 ?xn2 ?xn3; (case xn1 => walk_at "ea"); (case xn2 => rfl); (case xn3 => (first | exact sz_le (Nat.le_of_ble_eq_true rfl) | walk_at "sd")))
  | (refine' en_sll ?xn1 ?xn2 ?xn3 ?xn4; (case xn1 => walk_at "ev"); (case xn2 => walk_at "eo"); (case xn3 => walk_at "eo"); (case xn4 => walk_at "rd"))
  | (refine' en_listof ?xn1 ?xn2; (case xn1 => walk_at "ev"); (case xn2 => walk_at "rd"))
  | (refine' en_callV ?xn1 ?xn2 ?xn3; (case xn1 => walk_at "ea"); (case xn2 => rfl); (case xn3 => walk_at "call"))
  | (refine' en_addl ?xn1 ?xn2 ?xn3 ?xn4 ?xn5; (case xn1 => walk_at "ev"); (case xn2 => walk_at "ev"); (case xn3 => walk_at "rd"); (case xn4 => walk_at "rd"); (case xn5 => (first | exact sz_le (Nat.le_of_ble_eq_true rfl) | walk_at "sd")))
  | exact en_dnew
  | walk_at "lc")
local macro_rules | `(tactic| walk_at "ev") => `(tactic| first
  | exact ev_int | exact ev_bl | exact ev_str | exact ev_non | exact ev_ty | exact ev_ref
  | exact ev_var rfl | exact ev_own rfl
  | (refine' ev_o ?xv1 ?xv2 ?xv3; (case xv1 => walk_at "ev"); (case xv2 => walk_at "ev"); (case xv3 => walk_at "oe"))
  | (refine' ev_c ?xv1 ?xv2; (case xv1 => walk_at "ea"); (case xv2 => walk_at "ce"))
  | (refine' ev_and ?xv1 ?xv2; (case xv1 => walk_at "ev"); (case xv2 => (intro hk; walk_at "ev")))
  | (refine' ev_or ?xv1 ?xv2; (case xv1 => walk_at "ev"); (case xv2 => (intro hk; walk_at "ev")))
  | (refine' ev_not ?xv1; case xv1 => walk_at "ev")
  | (refine' ev_ch ?xv1 ?xv2 ?xv3 ?xv4 ?xv5; (case xv1 => walk_at "ev"); (case xv2 => walk_at "ev"); (case xv3 => walk_at "oe"); (case xv4 => (intro hk; walk_at "ev")); (case xv5 => (intro hk; walk_at "oe")))
  | (refine' ev_u ?xv1 ?xv2; (case xv1 => walk_at "ev"); (case xv2 => exact ue_neg))
  | (refine' ev_callV ?xv1 ?xv2 ?xv3; (case xv1 => walk_at "ea"); (case xv2 => rfl); (case xv3 => walk_at "call"))
  | (refine' ev_slt ?xv1 ?xv2 ?xv3 ?xv4; (case xv1 => walk_at "ev"); (case xv2 => walk_at "eo"); (case xv3 => walk_at "eo"); (case xv4 => rfl))
  | (refine' ev_tup ?xv1 ?xv2 ?xv3; (case xv1 => walk_at "ea"); (case xv2 => rfl); (case xv3 => (first | exact sz_le (Nat.le_of_ble_eq_true rfl) | walk_at "sd")))
  | (refine' ev_bits ?xv1; case xv1 => walk_at "ev")
  | (refine' ev_ifd ?xv1 ?xv2 ?xv3; (case xv1 => walk_at "et"); (case xv2 => (intro hk; walk_at "ev")); (case xv3 => (intro hk; walk_at "ev")))
  | (refine' Ev.give ?xv1; case xv1 => walk_at "en"))
local macro_rules | `(tactic| walk_at "no") => `(tactic| (intro o h; simp at h))
local macro_rules | `(tactic| walk_at "ei") => `(tactic| first
  | (refine' ei_t ?xi1; case xi1 => walk_at "ev")
  | (refine' ei_l ?xi1; case xi1 => walk_at "ev")
  | (refine' ei_s ?xi1; case xi1 => walk_at "ev")
  | (refine' ei_r1 ?xi1 ?xi2 ?xi3; (case xi1 => walk_at "ev"); (case xi2 => walk_at "sd"); (case xi3 => walk_at "sd"))
  | (refine' ei_r2 ?xi1 ?xi2 ?xi3; (case xi1 => walk_at "ev"); (case xi2 => walk_at "ev"); (case xi3 => walk_at "sd"))
  | (refine' ei_str ?xi1; case xi1 => walk_at "ev"))
local macro_rules | `(tactic| walk_at "lc") => `(tactic| first
  | (refine' en_lc0r ?xl1 ?xl2 ?xl3 ?xl4; (case xl1 => walk_at "ei"); (case xl2 => walk_at "no"); (case xl3 => walk_at "sd"); (case xl4 => (intro i hi; walk_at "ev")))
  | (refine' en_lc0d ?xl1 ?xl2 ?xl3 ?xl4; (case xl1 => walk_at "ei"); (case xl2 => walk_at "no"); (case xl3 => walk_at "sd"); (case xl4 => (intro x hx; walk_at "ev")))
  | (refine' en_lc1d ?xl1 ?xl2 ?xl3 ?xl4 ?xl5; (case xl1 => walk_at "ei"); (case xl2 => walk_at "no"); (case xl3 => walk_at "sd"); (case xl4 => (intro x hx; walk_at "et")); (case xl5 => (intro x hx hp; walk_at "ev"))))
local macro_rules | `(tactic| walk_at "call") => `(tactic| first | assumption | rfl)

def topS (i : Nat) : Stmt := PySem.Challenge.pw_surewire_k32_no_packet_bytes.main.body.getD i (.Pass ⟨0, 0, 0, 0⟩)
structure Cad : Type where
  NoBits : Addr
  NoBook : Addr
  NoCode : Addr
  NoData : Addr
  NoDeed : Addr
  NoNumber : Addr
  NoPacket : Addr
  NoPlace : Addr
  NoPort : Addr
  NoSegment : Addr
  NoSize : Addr
  NoTable : Addr
  NoTalk : Addr
  NoText : Addr
  NoTick : Addr
  Packet : Addr
  WireError : Addr
structure Txt (c : Cad) (K : PySem.W.Frag) (mg : Str → Option Value) : Prop where
  g_NoBits : mg "NoBits" = some (.ref c.NoBits)
  g_NoBook : mg "NoBook" = some (.ref c.NoBook)
  g_NoCode : mg "NoCode" = some (.ref c.NoCode)
  g_NoData : mg "NoData" = some (.ref c.NoData)
  g_NoDeed : mg "NoDeed" = some (.ref c.NoDeed)
  g_NoNumber : mg "NoNumber" = some (.ref c.NoNumber)
  g_NoPacket : mg "NoPacket" = some (.ref c.NoPacket)
  g_NoPlace : mg "NoPlace" = some (.ref c.NoPlace)
  g_NoPort : mg "NoPort" = some (.ref c.NoPort)
  g_NoSegment : mg "NoSegment" = some (.ref c.NoSegment)
  g_NoSize : mg "NoSize" = some (.ref c.NoSize)
  g_NoTable : mg "NoTable" = some (.ref c.NoTable)
  g_NoTalk : mg "NoTalk" = some (.ref c.NoTalk)
  g_NoText : mg "NoText" = some (.ref c.NoText)
  g_NoTick : mg "NoTick" = some (.ref c.NoTick)
  g_Packet : mg "Packet" = some (.ref c.Packet)
  g_WireError : mg "WireError" = some (.ref c.WireError)
  e_NoPacket : PySem.W.excIn K c.NoPacket [.type "ValueError", .type "Exception", .type "BaseException", .type "object"] "ValueError.__new__" = true
  k_NoPacket : PySem.W.keepIn K (.ref c.NoPacket) = true
  b_NoPacket : PySem.W.subIn K (.ref c.NoPacket) (.type "BaseException") = some true
  t_NoPacket : PySem.W.typeIn K (.ref c.NoPacket) = some (.type "type")
  m_NoPacket : PySem.W.exmOne K (.ref c.NoPacket) (.ref c.WireError) = some true
  x_NoPacket : ExcC K c.NoPacket
  v_NoPacket : PySem.W.kitOne K (.ref c.NoPacket) (.type "ValueError") = some true
  i_NoPacket_NoBits : PySem.W.kitOne K (.ref c.NoPacket) (.ref c.NoBits) = some false
  i_NoPacket_NoBook : PySem.W.kitOne K (.ref c.NoPacket) (.ref c.NoBook) = some false
  i_NoPacket_NoCode : PySem.W.kitOne K (.ref c.NoPacket) (.ref c.NoCode) = some false
  i_NoPacket_NoData : PySem.W.kitOne K (.ref c.NoPacket) (.ref c.NoData) = some false
  i_NoPacket_NoDeed : PySem.W.kitOne K (.ref c.NoPacket) (.ref c.NoDeed) = some false
  i_NoPacket_NoNumber : PySem.W.kitOne K (.ref c.NoPacket) (.ref c.NoNumber) = some false
  i_NoPacket_NoPacket : PySem.W.kitOne K (.ref c.NoPacket) (.ref c.NoPacket) = some true
  i_NoPacket_NoPlace : PySem.W.kitOne K (.ref c.NoPacket) (.ref c.NoPlace) = some false
  i_NoPacket_NoPort : PySem.W.kitOne K (.ref c.NoPacket) (.ref c.NoPort) = some false
  i_NoPacket_NoSegment : PySem.W.kitOne K (.ref c.NoPacket) (.ref c.NoSegment) = some false
  i_NoPacket_NoSize : PySem.W.kitOne K (.ref c.NoPacket) (.ref c.NoSize) = some false
  i_NoPacket_NoTable : PySem.W.kitOne K (.ref c.NoPacket) (.ref c.NoTable) = some false
  i_NoPacket_NoTalk : PySem.W.kitOne K (.ref c.NoPacket) (.ref c.NoTalk) = some false
  i_NoPacket_NoText : PySem.W.kitOne K (.ref c.NoPacket) (.ref c.NoText) = some false
  i_NoPacket_NoTick : PySem.W.kitOne K (.ref c.NoPacket) (.ref c.NoTick) = some false
  cl_Packet : Cls K c.Packet
  mk_Packet : PySem.W.makesIn K c.Packet = true
  kc_Packet : PySem.W.keepIn K (.ref c.Packet) = true
  n_Packet_data : PySem.W.findIn K (.ref c.Packet) "data" = some none
  n_Packet_first : PySem.W.findIn K (.ref c.Packet) "first" = some none
  n_Packet_kind : PySem.W.findIn K (.ref c.Packet) "kind" = some none
  n_Packet_life : PySem.W.findIn K (.ref c.Packet) "life" = some none
  n_Packet_more : PySem.W.findIn K (.ref c.Packet) "more" = some none
  n_Packet_name : PySem.W.findIn K (.ref c.Packet) "name" = some none
  n_Packet_source : PySem.W.findIn K (.ref c.Packet) "source" = some none
  n_Packet_target : PySem.W.findIn K (.ref c.Packet) "target" = some none
  b_ValueError : mg "ValueError" = none
  b_abs : mg "abs" = none
  b_all : mg "all" = none
  b_bool : mg "bool" = none
  b_int : mg "int" = none
  b_isinstance : mg "isinstance" = none
  b_len : mg "len" = none
  b_list : mg "list" = none
  b_max : mg "max" = none
  b_min : mg "min" = none
  b_range : mg "range" = none
  b_repr : mg "repr" = none
  b_tuple : mg "tuple" = none
  c_HEAD : ∃ t, mg "HEAD" = some (.int 14 t)
  c_MANY_AT : ∃ t, mg "MANY_AT" = some (.int 10 t)
  c_MORE_AT : ∃ t, mg "MORE_AT" = some (.int 8 t)
  c_MOST_BYTE : ∃ t, mg "MOST_BYTE" = some (.int 255 t)
  c_MOST_TOGETHER : ∃ t, mg "MOST_TOGETHER" = some (.int 1000 t)
  c_MOST_WORD : ∃ t, mg "MOST_WORD" = some (.int 65535 t)
  c_NOUGHT_AT : ∃ t, mg "NOUGHT_AT" = some (.int 9 t)
  c_SUM_AT : ∃ t, mg "SUM_AT" = some (.int 12 t)


/-- a thing of a told class -/
def ok (x : D) : Prop := (tyD x).isSome = true
def isWhole (lo hi : Int) : D → Bool
  | .int i => decide (lo ≤ i) && decide (i ≤ hi)
  | _ => false
def intOf : D → Int
  | .int i => i
  | _ => 0
theorem whole_int {lo hi : Int} {x : D} (h : isWhole lo hi x = true) : ∃ i, x = .int i ∧ lo ≤ i ∧ i ≤ hi := by
  cases x <;> first | (simp [isWhole] at h; exact ⟨_, rfl, h.1, h.2⟩) | cases h
theorem ok_int {i : Int} : ok (.int i) := rfl
theorem sz100 {n : Nat} (h : n ≤ 100000) : n ≤ sizeLine := Nat.le_trans h (by decide)

/-- .. and so are its parts -/
def okT : D → Prop
  | .tup l => (∀ x, x ∈ l → ok x) ∧ l.length ≤ 100000
  | d => ok d
theorem okT_okT {x : D} (h : okT x) : ok x := by cases x <;> first | exact h | rfl
theorem okT_ints {l : List Int} (h : l.length ≤ 100000) : okT (.tup (l.map D.int)) := ⟨fun x hx => by
  obtain ⟨i, _, rfl⟩ := List.mem_map.mp hx
  rfl, by rw [List.length_map]; exact h⟩
def isBl : D → Bool
  | .bl _ => true
  | _ => false
def isRowI (m : Int) : D → Bool
  | .tup l => decide ((l.length : Int) ≤ m) && l.all (isWhole 0 255)
  | _ => false
theorem isd_bl {x : D} (h : ok x) : isD "bool" x = some (isBl x) := by
  cases x <;> first | exact isd_non_bool | exact isd_bl_bool | exact isd_int_bool | exact isd_str_bool | exact isd_tup_bool | exact isd_lst_bool | exact isd_dic_bool | exact isd_dit_bool | cases h
theorem all_ints {hi : Int} : ∀ {l : List D}, l.all (isWhole 0 hi) = true → l = (l.map intOf).map D.int ∧ ∀ b, b ∈ l.map intOf → 0 ≤ b ∧ b ≤ hi
  | [], _ => ⟨rfl, fun _ h => by cases h⟩
  | x :: l, h => by
    rw [List.all_cons, Bool.and_eq_true] at h
    obtain ⟨i, rfl, h1, h2⟩ := whole_int h.1
    obtain ⟨h3, h4⟩ := all_ints h.2
    refine ⟨by rw [List.map_cons, List.map_cons, ← h3]; rfl, fun b hb => ?_⟩
    rcases List.mem_cons.mp hb with q | q
    · subst q; exact ⟨h1, h2⟩
    · exact h4 b q
theorem all_of {hi : Int} : ∀ {l : List Int}, (∀ b, b ∈ l → 0 ≤ b ∧ b ≤ hi) → (l.map D.int).all (isWhole 0 hi) = true
  | [], _ => rfl
  | x :: l, h => by
    rw [List.map_cons, List.all_cons, all_of fun b q => h b (List.mem_cons_of_mem _ q)]
    have := h x List.mem_cons_self
    simp [isWhole, this.1, this.2]
def goodL (l : List D) : Bool := (isWhole 0 255 (l.getD 0 .non) && (isWhole 0 255 (l.getD 1 .non) && (isWhole 0 255 (l.getD 2 .non) && (isWhole 0 255 (l.getD 3 .non) && true)))) && ((isWhole 0 65535 (l.getD 4 .non) && (isWhole 0 1000 (l.getD 5 .non) && isBl (l.getD 6 .non))) && isRowI (1000 - intOf (l.getD 5 .non)) (l.getD 7 .non))
theorem goodL_eq {s t k l n f m d : D} : goodL [s, t, k, l, n, f, m, d] = ((isWhole 0 255 s && (isWhole 0 255 t && (isWhole 0 255 k && (isWhole 0 255 l && true)))) && ((isWhole 0 65535 n && (isWhole 0 1000 f && isBl m)) && isRowI (1000 - intOf f) d)) := rfl
def okL (l : List D) : Prop := ∃ s t k e n f m d, l = [s, t, k, e, n, f, m, d] ∧ ok s ∧ ok t ∧ ok k ∧ ok e ∧ ok n ∧ ok f ∧ ok m ∧ okT d
theorem okL_args {p : Pk} (h : p.Ok) : okL p.args := ⟨_, _, _, _, _, _, _, _, rfl, rfl, rfl, rfl, rfl, rfl, rfl, rfl, okT_ints (by have := h.hz; have := h.hf.1; omega)⟩
theorem good_args {p : Pk} (h : p.Ok) : goodL p.args = true := by
  obtain ⟨h1, h2, h3, h4, h5, h6, h7, h8⟩ := h
  have hd := all_of (hi := 255) h7
  simp [goodL, Pk.args, isWhole, isBl, isRowI, intOf, hd, h1, h2, h3, h4, h5, h6, h8]
  omega
theorem good_pk {s t k e n f m d : D} (h : goodL [s, t, k, e, n, f, m, d] = true) : ∃ p : Pk, [s, t, k, e, n, f, m, d] = p.args ∧ p.Ok := by
  simp only [goodL, List.getD_cons_zero, List.getD_cons_succ, Bool.and_eq_true] at h
  obtain ⟨⟨h1, h2, h3, h4, _⟩, ⟨h5, h6, h7⟩, h8⟩ := h
  obtain ⟨s, rfl, s0, s1⟩ := whole_int h1
  obtain ⟨t, rfl, t0, t1⟩ := whole_int h2
  obtain ⟨k, rfl, k0, k1⟩ := whole_int h3
  obtain ⟨e, rfl, e0, e1⟩ := whole_int h4
  obtain ⟨n, rfl, n0, n1⟩ := whole_int h5
  obtain ⟨f, rfl, f0, f1⟩ := whole_int h6
  cases m with
  | bl m =>
    cases d with
    | tup l =>
      have h8' : (decide ((l.length : Int) ≤ 1000 - f) && l.all (isWhole 0 255)) = true := h8
      rw [Bool.and_eq_true] at h8'
      obtain ⟨d1, d2⟩ := all_ints h8'.2
      have d3 := of_decide_eq_true h8'.1
      refine ⟨⟨s, t, k, e, n, f, m, l.map intOf⟩, ?_, ⟨s0, s1⟩, ⟨t0, t1⟩, ⟨k0, k1⟩, ⟨e0, e1⟩, ⟨n0, n1⟩, ⟨f0, f1⟩, d2, ?_⟩
      · unfold Pk.args
        rw [← d1]
      · show ((l.map intOf).length : Int) + f ≤ 1000
        rw [List.length_map]; omega
    | _ => cases h8
  | _ => cases h7
def p_is_number : List D → D → Prop := fun ds d => ∃ x m, ds = [x, .int m] ∧ ok x ∧ d = .bl (isWhole 0 m x)
def p_are_bytes : List D → D → Prop := fun ds d => ∃ x m, ds = [x, .int m] ∧ okT x ∧ d = .bl (isRowI m x)
def pkO (c : Cad) (p : Pk) : D := .obj c.Packet p.fs
def p_init (c : Cad) : OB → List D → Ret → OB → Prop := fun o ds r o' => o = .obj c.Packet [] ∧ okL ds ∧ ((∃ p : Pk, ds = p.args ∧ p.Ok ∧ r = .val .non ∧ o' = .obj c.Packet p.fs) ∨ (goodL ds = false ∧ r = .exc c.NoPacket ∧ o' = .obj c.Packet []))
local macro_rules | `(tactic| walk_at "call") => `(tactic| first
  | exact ⟨_, _, rfl, by first | assumption | (apply_assumption; assumption), rfl⟩)
def p_two : List D → D → Prop := fun ds d => ∃ n : Int, ds = [.int n] ∧ d = .tup [.int (n / 256), .int (n % 256)]
def p_of_two : List D → D → Prop := fun ds d => ∃ (l : List Int) (p : Nat), ds = [.tup (l.map D.int), .int (p : Nat)] ∧ p + 1 < l.length ∧ Bytes l ∧ d = .int (wAt l p)
def p_sum_of : List D → D → Prop := fun ds d => ∃ l : List Int, ds = [.tup (l.map D.int)] ∧ 12 ≤ l.length ∧ Bytes l ∧ d = .int (sumF l)

def cellAt (ns : List Int) (k : Int) : Int := ns.getD k.toNat 0
def p_cell_at : List D → D → Prop := fun ds d => ∃ (ns : List Int) (k : Int), ds = [.scr (ns.map D.int), .int k] ∧ 0 ≤ k ∧ d = .int (cellAt ns k)

def mix1 (c k : Int) : Int := (c + 7919 * k + 104729) * 48271 % 2147483647
def mix2 (n k : Int) : Int := (n * n + 69621 * n + k) % 2147483629
def mix3 (n : Int) : Int := (n * n + 40692 * n) % 2147483587 / 5
def mixed (c k : Int) : Int := mix3 (mix2 (mix1 c k) k)
def p_mixed : List D → D → Prop := fun ds d => ∃ c k, ds = [.int c, .int k] ∧ d = .int (mixed c k)

def rowAt (c : Int) (b : Bool) (s : Int) : Nat → Int × List Int
  | 0 => (c, [])
  | k + 1 => let p := rowAt c b s k
    if b && decide ((if p.1 < 0 then -p.1 else p.1) > 1) then (p.1 / s, p.2 ++ [p.1 % s]) else (p.1, p.2 ++ [mixed c k % s])
theorem rowAt_len {c : Int} {b : Bool} {s : Int} : ∀ n, (rowAt c b s n).2.length = n
  | 0 => rfl
  | n + 1 => by
    unfold rowAt
    simp only
    generalize (b && decide ((if (rowAt c b s n).1 < 0 then -(rowAt c b s n).1 else (rowAt c b s n).1) > 1)) = q
    cases q <;> simp [rowAt_len n]
theorem rowAt_in {c : Int} {b : Bool} {s : Int} (hs : 0 < s) : ∀ n x, x ∈ (rowAt c b s n).2 → 0 ≤ x ∧ x < s
  | 0, x, h => by cases h
  | n + 1, x, h => by
    have m : ∀ y : Int, 0 ≤ y % s ∧ y % s < s := fun y => ⟨Int.emod_nonneg y (by omega), Int.emod_lt_of_pos y hs⟩
    unfold rowAt at h
    simp only at h
    generalize (b && decide ((if (rowAt c b s n).1 < 0 then -(rowAt c b s n).1 else (rowAt c b s n).1) > 1)) = q at h
    cases q <;> simp only [if_true, Bool.false_eq_true, if_false] at h
    · rcases List.mem_append.mp h with q | q
      · exact rowAt_in hs n x q
      · rw [List.mem_singleton.mp q]; exact m _
    · rcases List.mem_append.mp h with q | q
      · exact rowAt_in hs n x q
      · rw [List.mem_singleton.mp q]; exact m _
def rowF (c : Int) (b : Bool) (s : Int) (m : Int) : List Int := (rowAt c b s m.toNat).2
def p_row : List D → OB → Prop := fun ds o => ∃ c b s m, ds = [.int c, .bl b, .int s, .int m] ∧ 0 < s ∧ s ≤ 4294967296 ∧ 0 ≤ m ∧ m ≤ 4096 ∧ o = .lst ((rowF c b s m).map D.int)

theorem get_in {r : List Int} {lo hi : Int} (hr : ∀ x, x ∈ r → lo ≤ x ∧ x < hi) (h0 : lo ≤ 0) (h1 : 0 < hi) (i : Nat) : lo ≤ r.getD i 0 ∧ r.getD i 0 < hi := by
  rw [List.getD_eq_getElem?_getD]
  cases q : r[i]? with
  | none => exact ⟨h0, h1⟩
  | some b => exact hr b (List.mem_of_getElem? q)

theorem mixed_pos {c k : Int} : 0 ≤ mixed c k := by unfold mixed mix3; omega
def p_told (c : Cad) : List D → D → Prop := fun ds d => ∃ p : Pk, ds = [pkO c p] ∧ d = .tup p.args
def edgeB (m : Int) (k : Nat) : Int := if m / 2 ^ k % 2 = 0 then 0 else 255
def edgeR (m : Int) : List Int := (List.range 8).map (edgeB m)
def row3 (c k m : Int) : List Int := if k / 2 % 5 = 1 then edgeR m else rowF c (decide (k % 2 = 0)) 256 8
def first3 (r : List Int) (k : Int) : Int := ([r.getD 6 0 * 256 + r.getD 7 0, 0, 1000, 8 * r.getD 6 0, r.getD 7 0] : List Int).getD (k / 10 % 5).toNat 0 % 1001
def man3 (k : Int) : Int := ([k / 50 % 61, 0, 1, 1000] : List Int).getD (k / 3050 % 4 * (if k / 12200 % 4 = 1 then 1 else 0)).toNat 0
def many3 (f k : Int) : Int := if 1000 - f < man3 k then 1000 - f else man3 k
def five3 (k m : Int) : List Int := [m / 7 % 256, (k + 3) % 256, 0, 255, 126]
def long3 (k m : Int) : List Int := (List.replicate 200 (five3 k m)).flatten
def data3 (k m n : Int) : List Int := if n > 60 then (long3 k m).take n.toNat else rowF m (decide (k % 2 = 0)) 256 (if 60 < n then 60 else n)
def fields3 (c k m : Int) : Pk := ⟨(row3 c k m).getD 0 0, (row3 c k m).getD 1 0, (row3 c k m).getD 2 0, (row3 c k m).getD 3 0, (row3 c k m).getD 4 0 * 256 + (row3 c k m).getD 5 0, first3 (row3 c k m) k, decide (k / 97600 % 2 = 1), data3 k m (many3 (first3 (row3 c k m) k) k)⟩
theorem row3_in {c k m : Int} : (row3 c k m).length = 8 ∧ ∀ x, x ∈ row3 c k m → 0 ≤ x ∧ x < 256 := by
  unfold row3
  split
  · refine ⟨by unfold edgeR; simp, fun x hx => ?_⟩
    obtain ⟨j, _, rfl⟩ := List.mem_map.mp hx
    unfold edgeB
    split <;> omega
  · exact ⟨rowAt_len _, fun x hx => rowAt_in (by decide) _ x hx⟩
theorem first3_in {r : List Int} {k : Int} : 0 ≤ first3 r k ∧ first3 r k ≤ 1000 := by unfold first3; omega
theorem man3_in {k : Int} : 0 ≤ man3 k ∧ man3 k ≤ 1000 := by
  have h : ∀ x, x ∈ ([k / 50 % 61, 0, 1, 1000] : List Int) → 0 ≤ x ∧ x < 1001 := by
    intro x hx
    simp only [List.mem_cons, List.mem_nil_iff, or_false] at hx
    omega
  have := get_in h (by decide) (by decide) (k / 3050 % 4 * (if k / 12200 % 4 = 1 then 1 else 0)).toNat
  unfold man3
  omega
theorem many3_in {f k : Int} (h0 : 0 ≤ f) (h1 : f ≤ 1000) : 0 ≤ many3 f k ∧ many3 f k + f ≤ 1000 := by
  have := man3_in (k := k)
  unfold many3
  split <;> omega
theorem long3_in {k m : Int} : (long3 k m).length = 1000 ∧ ∀ x, x ∈ long3 k m → 0 ≤ x ∧ x < 256 := by
  unfold long3
  refine ⟨by simp [five3], fun x hx => ?_⟩
  obtain ⟨l, h1, h2⟩ := List.mem_flatten.mp hx
  rw [(List.mem_replicate.mp h1).2] at h2
  unfold five3 at h2
  simp only [List.mem_cons, List.mem_nil_iff, or_false] at h2
  omega
theorem data3_in {k m n : Int} (h0 : 0 ≤ n) (h1 : n ≤ 1000) : (data3 k m n).length = n.toNat ∧ ∀ x, x ∈ data3 k m n → 0 ≤ x ∧ x < 256 := by
  unfold data3
  split
  · refine ⟨by rw [List.length_take, long3_in.1]; omega, fun x hx => long3_in.2 x (List.mem_of_mem_take hx)⟩
  · rename_i hn
    exact ⟨rowAt_len _, fun x hx => rowAt_in (by decide) _ x hx⟩
theorem fields3_ok {c k m : Int} : (fields3 c k m).Ok := by
  obtain ⟨h1, h2⟩ := row3_in (c := c) (k := k) (m := m)
  unfold fields3
  generalize row3 c k m = r at h1 h2 ⊢
  have g := get_in h2 (by decide) (by decide)
  have g0 := g 0; have g1 := g 1; have g2 := g 2; have g3 := g 3; have g4 := g 4; have g5 := g 5
  obtain ⟨f0, f1⟩ := first3_in (r := r) (k := k)
  generalize first3 r k = f at f0 f1 ⊢
  obtain ⟨n0, n1⟩ := many3_in (k := k) f0 f1
  generalize many3 f k = n at n0 n1 ⊢
  obtain ⟨d0, d1⟩ := data3_in (k := k) (m := m) n0 (by omega)
  generalize data3 k m n = d at d0 d1 ⊢
  refine ⟨?_, ?_, ?_, ?_, ?_, ⟨f0, f1⟩, fun x hx => ?_, ?_⟩
  · show 0 ≤ r.getD 0 0 ∧ r.getD 0 0 ≤ 255; omega
  · show 0 ≤ r.getD 1 0 ∧ r.getD 1 0 ≤ 255; omega
  · show 0 ≤ r.getD 2 0 ∧ r.getD 2 0 ≤ 255; omega
  · show 0 ≤ r.getD 3 0 ∧ r.getD 3 0 ≤ 255; omega
  · show 0 ≤ r.getD 4 0 * 256 + r.getD 5 0 ∧ r.getD 4 0 * 256 + r.getD 5 0 ≤ 65535; omega
  · have := d1 x hx; omega
  · show (d.length : Int) + f ≤ 1000; omega
def p_fields3 : List D → D → Prop := fun ds d => ∃ c k m : Int, ds = [.int c, .int k, .int m] ∧ d = .tup (fields3 c k m).args
theorem small_int {i : Int} (h0 : -100000 ≤ i) (h1 : i ≤ 100000) : i.natAbs < 10 ^ 100 := Nat.lt_of_le_of_lt (show i.natAbs ≤ 100000 by omega) (by decide)
theorem shw_bytes {l : List Int} (h : Bytes l) : shw (.tup (l.map D.int)) = true := by
  unfold shw
  exact shwL_ints fun x hx => by have := h x hx; exact small_int (by omega) (by omega)
theorem cost_ints {l : List Int} (h : l.length ≤ 10000) : cost (.tup (l.map D.int)) ≤ sizeLine := by
  unfold cost
  rw [costL_ints]
  exact Nat.le_trans (show _ ≤ 1100000 by omega) (by decide)
theorem pl_args (p : Pk) : pl 60 (.tup p.args) = true := by
  unfold pl Pk.args
  simp [plL, pl, plL_ints]
theorem shw_args {p : Pk} (h : p.Ok) : shw (.tup p.args) = true := by
  obtain ⟨h1, h2, h3, h4, h5, h6, h7, h8⟩ := h
  have hd := shw_bytes h7
  unfold shw Pk.args shwL
  rw [Bool.and_eq_true]
  refine ⟨?_, ?_⟩
  · unfold shw; exact decide_eq_true (small_int (by omega) (by omega))
  unfold shwL
  rw [Bool.and_eq_true]
  refine ⟨?_, ?_⟩
  · unfold shw; exact decide_eq_true (small_int (by omega) (by omega))
  unfold shwL
  rw [Bool.and_eq_true]
  refine ⟨?_, ?_⟩
  · unfold shw; exact decide_eq_true (small_int (by omega) (by omega))
  unfold shwL
  rw [Bool.and_eq_true]
  refine ⟨?_, ?_⟩
  · unfold shw; exact decide_eq_true (small_int (by omega) (by omega))
  unfold shwL
  rw [Bool.and_eq_true]
  refine ⟨?_, ?_⟩
  · unfold shw; exact decide_eq_true (small_int (by omega) (by omega))
  unfold shwL
  rw [Bool.and_eq_true]
  refine ⟨?_, ?_⟩
  · unfold shw; exact decide_eq_true (small_int (by omega) (by omega))
  unfold shwL
  rw [Bool.and_eq_true]
  refine ⟨by unfold shw; rfl, ?_⟩
  unfold shwL
  rw [Bool.and_eq_true]
  refine ⟨hd, by unfold shwL; rfl⟩
theorem cost_args {p : Pk} (h : p.Ok) : cost (.tup p.args) ≤ sizeLine := by
  obtain ⟨h1, h2, h3, h4, h5, h6, h7, h8⟩ := h
  have e : cost (.tup p.args) = 631 + 103 * p.d.length := by
    unfold cost Pk.args
    simp only [costL, cost, costL_ints]
    omega
  rw [e]
  exact Nat.le_trans (show _ ≤ 1000000 by omega) (by decide)

inductive Err where
  | packet
def Err.ad (c : Cad) : Err → Addr
  | .packet => c.NoPacket
def Err.name : Err → Str
  | .packet => "packet"
def p_class (c : Cad) : List D → D → Prop := fun ds d => ∃ e : Err, ds = [.exc (e.ad c)] ∧ d = .str e.name

/-- what bytes tell -/
def isPk (l : List Int) : Bool := decide (14 ≤ l.length) && (decide (l.getD 8 0 ≤ 1) && (decide (l.getD 9 0 = 0) && (decide (wAt l 10 = (l.length : Int) - 14) && (decide (wAt l 12 = sumF l) && decide (wAt l 6 + (l.length : Int) - 14 ≤ 1000)))))
def pkOf (l : List Int) : Pk := ⟨l.getD 2 0, l.getD 3 0, l.getD 0 0, l.getD 1 0, wAt l 4, wAt l 6, decide (l.getD 8 0 = 1), l.drop 14⟩
def readD : D → Option Pk
  | .tup L => if L.all (isWhole 0 255) && isPk (L.map intOf) then some (pkOf (L.map intOf)) else none
  | _ => none
theorem read_tup {L : List D} : readD (.tup L) = if L.all (isWhole 0 255) && isPk (L.map intOf) then some (pkOf (L.map intOf)) else none := rfl
theorem isPk_of {l : List Int} (h : isPk l = true) : 14 ≤ l.length ∧ l.getD 8 0 ≤ 1 ∧ l.getD 9 0 = 0 ∧ wAt l 10 = (l.length : Int) - 14 ∧ wAt l 12 = sumF l ∧ wAt l 6 + (l.length : Int) - 14 ≤ 1000 := by
  simpa [isPk] using h
theorem pkOf_ok {l : List Int} (hb : Bytes l) (h : isPk l = true) : (pkOf l).Ok := by
  obtain ⟨h1, h2, h3, h4, h5, h6⟩ := isPk_of h
  have g : ∀ i, i < l.length → 0 ≤ l.getD i 0 ∧ l.getD i 0 ≤ 255 := fun i hi => hb _ (getD_in hi)
  have w4 := wAt_in hb 4
  have w6 := wAt_in hb 6
  refine ⟨g 2 (by omega), g 3 (by omega), g 0 (by omega), g 1 (by omega), w4, ⟨w6.1, ?_⟩, fun x hx => hb x (List.mem_of_mem_drop hx), ?_⟩
  · show wAt l 6 ≤ 1000; omega
  · show ((l.drop 14).length : Int) + wAt l 6 ≤ 1000
    rw [List.length_drop]; omega
theorem isPk_row {p : Pk} (hp : p.Ok) : isPk p.row = true := by
  have hl : p.row.length = 14 + p.d.length := Pk.row_len
  have hm : p.mi ≤ 1 := by unfold Pk.mi; cases p.m <;> decide
  have hz := hp.hz
  have hf := hp.hf
  unfold isPk
  rw [decide_eq_true (by omega), decide_eq_true (show p.row.getD 8 0 ≤ 1 from hm), decide_eq_true (show p.row.getD 9 0 = 0 from rfl), decide_eq_true (show wAt p.row 10 = (p.row.length : Int) - 14 by
    show (p.d.length : Int) / 256 * 256 + (p.d.length : Int) % 256 = _
    rw [hl]; omega), decide_eq_true (row_sum hp), decide_eq_true (show wAt p.row 6 + (p.row.length : Int) - 14 ≤ 1000 by
    show p.f / 256 * 256 + p.f % 256 + _ - 14 ≤ 1000
    rw [hl]; omega)]
  rfl
theorem ints_back {l : List Int} : (l.map D.int).map intOf = l := by
  rw [List.map_map]
  show l.map (fun i => i) = l
  exact List.map_id' _
theorem read_ints {l : List Int} (hb : Bytes l) : readD (.tup (l.map D.int)) = if isPk l then some (pkOf l) else none := by
  rw [read_tup, all_of hb, ints_back, Bool.true_and]
theorem read_ok {x : D} {p : Pk} (h : readD x = some p) : p.Ok := by
  cases x with
  | tup L =>
    rw [read_tup] at h
    cases q : L.all (isWhole 0 255) && isPk (L.map intOf) with
    | false => rw [q] at h; cases h
    | true =>
      rw [q] at h
      cases h
      rw [Bool.and_eq_true] at q
      obtain ⟨_, h2⟩ := all_ints q.1
      exact pkOf_ok h2 q.2
  | _ => cases h
/-- things whose parts are plain -/
def okN (n : Nat) (L : List D) : Prop := (∀ x, x ∈ L → ok x ∧ pl 59 x = true) ∧ L.length ≤ n
theorem okN_app {n m : Nat} {A B : List D} (h1 : okN n A) (h2 : okN m B) : okN (n + m) (A ++ B) := ⟨fun x hx => by
  rcases List.mem_append.mp hx with q | q
  · exact h1.1 x q
  · exact h2.1 x q, by rw [List.length_append]; exact Nat.add_le_add h1.2 h2.2⟩
theorem okN_cut {n : Nat} {L : List D} {a b : Option Int} (h : okN n L) : okN n (cutD L a b) := ⟨fun x hx => h.1 x (by
  unfold cutD at hx
  exact List.mem_of_mem_drop (List.mem_of_mem_take hx)), by unfold cutD; rw [List.length_take, List.length_drop]; have := h.2; omega⟩
theorem okN_ints {n : Nat} {l : List Int} (h : l.length ≤ n) : okN n (l.map D.int) := ⟨fun x hx => by
  obtain ⟨i, _, rfl⟩ := List.mem_map.mp hx
  exact ⟨rfl, by unfold pl; rfl⟩, by rw [List.length_map]; exact h⟩
theorem okN_one {x : D} (h : ok x) (h2 : pl 59 x = true) : okN 1 [x] := ⟨fun y hy => by rw [List.mem_singleton.mp hy]; exact ⟨h, h2⟩, Nat.le_refl _⟩
theorem plL_all {n : Nat} : ∀ {L : List D}, (∀ x, x ∈ L → pl n x = true) → plL n L = true
  | [], _ => by unfold plL; rfl
  | x :: L, h => by
    unfold plL
    rw [h x List.mem_cons_self, plL_all fun y hy => h y (List.mem_cons_of_mem _ hy)]; rfl
/-- a thing to be read -/
def okX (x : D) : Prop := okT x ∧ ∀ L, x = .tup L → ∀ y, y ∈ L → pl 59 y = true
theorem okX_N {n : Nat} {L : List D} (h : okN n L) (hn : n ≤ 100000) : okX (.tup L) := ⟨⟨fun x hx => (h.1 x hx).1, Nat.le_trans h.2 hn⟩, fun L' e y hy => by cases e; exact (h.1 y hy).2⟩
theorem okX_ints {l : List Int} (h : l.length ≤ 100000) : okX (.tup (l.map D.int)) := okX_N (okN_ints h) (Nat.le_refl _)
theorem out255 {i : Int} : (decide (i < 0) || decide (i > 255)) = !(decide (0 ≤ i) && decide (i ≤ 255)) := by
  by_cases a : i < 0
  · rw [decide_eq_true a, decide_eq_false (show ¬ 0 ≤ i by omega)]; rfl
  · rw [decide_eq_false a, decide_eq_true (show 0 ≤ i by omega)]
    by_cases b : i ≤ 255
    · rw [decide_eq_true b, decide_eq_false (show ¬ i > 255 by omega)]; rfl
    · rw [decide_eq_false b, decide_eq_true (show i > 255 by omega)]; rfl
theorem filt_all {p : D → Bool} : ∀ {L : List D}, (L.filter fun x => !p x).isEmpty = L.all p
  | [] => rfl
  | x :: L => by
    rw [List.filter_cons, List.all_cons]
    cases q : p x with
    | true => simp only [Bool.not_true, Bool.false_eq_true, if_false, Bool.true_and]; exact filt_all
    | false => rfl
theorem cut_len {L : List D} {a b : Option Int} : (cutD L a b).length ≤ L.length := by
  unfold cutD
  rw [List.length_take, List.length_drop]; omega
def p_by (c : Cad) : List D → Ret → Prop := fun ds r => ∃ x, ds = [x] ∧ okT x ∧ r = match readD x with
  | some p => .val (pkO c p)
  | none => .exc c.NoPacket
def p_read : List D → D → Prop := fun ds d => ∃ x, ds = [x] ∧ okX x ∧ d = match readD x with
  | some p => .tup p.args
  | none => .non
def foundD (x : D) : D := match readD x with
  | some p => .tup p.args
  | none => .str "packet"
def p_found : List D → D → Prop := fun ds d => ∃ x, ds = [x] ∧ okT x ∧ d = foundD x
def p_lsum : List D → D → Prop := fun ds d => ∃ l : List Int, (ds = [.lst (l.map D.int)] ∨ ds = [.tup (l.map D.int)]) ∧ 12 ≤ l.length ∧ Bytes l ∧ d = .int (sumF l)
def p_lbytes : List D → D → Prop := fun ds d => ∃ p : Pk, ds = [.tup p.args] ∧ p.Ok ∧ d = .tup (p.row.map D.int)
def ones (p : Pk) : Pk := { p with n := -(tots (Pk.row { p with n := 0 }) 6) % 65535 }
theorem ones_ok {p : Pk} (h : p.Ok) : (ones p).Ok ∧ Pk.Ok { p with n := 0 } := by
  obtain ⟨h1, h2, h3, h4, h5, h6, h7, h8⟩ := h
  refine ⟨⟨h1, h2, h3, h4, ?_, h6, h7, h8⟩, ⟨h1, h2, h3, h4, ⟨by show (0 : Int) ≤ 0; decide, by show (0 : Int) ≤ 65535; decide⟩, h6, h7, h8⟩⟩
  show 0 ≤ -(tots (Pk.row { p with n := 0 }) 6) % 65535 ∧ -(tots (Pk.row { p with n := 0 }) 6) % 65535 ≤ 65535
  omega
def p_ones : List D → D → Prop := fun ds d => ∃ p : Pk, ds = [.tup p.args] ∧ p.Ok ∧ d = .tup (ones p).args
/-- bytes with one thing otherwise -/
def h12 (l : List Int) (a : Nat) (b : Int) : List Int := l.take a ++ [b] ++ (l.drop (a + 1)).take (12 - (a + 1))
theorem h12_in {l : List Int} {a : Nat} {b : Int} (hb : Bytes l) (hl : 14 ≤ l.length) (ha : a < 12) (h0 : 0 ≤ b) (h1 : b ≤ 255) : (h12 l a b).length = 12 ∧ Bytes (h12 l a b) := by
  unfold h12
  refine ⟨?_, fun x hx => ?_⟩
  · rw [List.length_append, List.length_append, List.length_take, List.length_take, List.length_drop]
    show _ + 1 + _ = _
    omega
  · rcases List.mem_append.mp hx with q | q
    · rcases List.mem_append.mp q with q | q
      · exact hb x (List.mem_of_mem_take q)
      · rw [List.mem_singleton.mp q]; exact ⟨h0, h1⟩
    · exact hb x (List.mem_of_mem_drop (List.mem_of_mem_take q))
def odds : List D := [.int 256, .int (-1), .bl true, .non, .str "0", .tup [.int 1]]
def things (L : List D) : List D := [.lst L, .non, .str "0", .tup (cutD L none (some 13)), .tup [], .int 14, .tup (L ++ (List.replicate 1001 [D.int 0]).flatten)]
def swL (L : List D) (x y : D) (lo hi : Int) : List D := cutD L none (some lo) ++ [x] ++ cutD L (some (lo + 1)) (some hi) ++ (List.replicate (if decide (hi > lo) then (1 : Int) else 0).toNat [y]).flatten ++ cutD L (some (hi + 1)) none
def loF (a o : Int) : Int := if o < a % 14 then o else a % 14
def hiF (a o : Int) : Int := if o > a % 14 then o else a % 14
def changedG (l : List Int) (a b kd : Int) : D :=
  if kd < 2 then .tup (cutD (l.map D.int) none (some a) ++ [.int b] ++ cutD (l.map D.int) (some (a + 1)) none)
  else if kd = 2 then .tup (cutD (l.map D.int) none (some a) ++ cutD (l.map D.int) (some (a + 1)) none)
  else if kd = 3 then .tup (cutD (l.map D.int) none (some a) ++ [.int b] ++ cutD (l.map D.int) (some a) none)
  else if kd = 4 then .tup (swL (l.map D.int) (.int (l.getD (hiF a (b % 14)).toNat 0)) (.int (l.getD (loF a (b % 14)).toNat 0)) (loF a (b % 14)) (hiF a (b % 14)))
  else if kd < 7 then .tup ((h12 l (a % 12).toNat b ++ [sumF (h12 l (a % 12).toNat b) / 256, sumF (h12 l (a % 12).toNat b) % 256]).map D.int ++ cutD (l.map D.int) (some 14) none)
  else if kd = 9 then .tup (cutD (l.map D.int) none (some 12) ++ [.int (255 - l.getD 12 0), .int (255 - l.getD 13 0)] ++ cutD (l.map D.int) (some 14) none)
  else if kd = 7 then .tup (cutD (l.map D.int) none (some a) ++ [odds.getD (b % 6).toNat .non] ++ cutD (l.map D.int) (some (a + 1)) none)
  else (things (l.map D.int)).getD (b % 7).toNat .non
def atF (l : List Int) (k s : Int) : Int := ([s / 10 % (l.length : Int), s / 10 % 14] : List Int).getD (k % 2).toNat 0
def changedF (l : List Int) (k s : Int) : D := changedG l (atF l k s) (s / 14000 % 256) (s % 10)
theorem odds_ok {j : Nat} (h : j < 6) : ok (odds.getD j .non) ∧ pl 59 (odds.getD j .non) = true := by
  have hx : ∀ x, x ∈ odds → ok x ∧ pl 59 x = true := fun x hx => by
    simp only [odds, List.mem_cons, List.mem_nil_iff, or_false] at hx
    rcases hx with h | h | h | h | h | h <;> subst h <;> exact ⟨rfl, by decide +kernel⟩
  exact hx _ (getD_in h)
theorem rep_len {x : D} {n : Nat} : (List.replicate n [x]).flatten.length = n ∧ ∀ y, y ∈ (List.replicate n [x]).flatten → y = x := by
  induction n with
  | zero => exact ⟨rfl, fun y h => by cases h⟩
  | succ n ih =>
    rw [List.replicate_succ, List.flatten_cons]
    refine ⟨by rw [List.length_append, ih.1]; show 1 + n = n + 1; omega, fun y h => ?_⟩
    rcases List.mem_append.mp h with q | q
    · exact List.mem_singleton.mp q
    · exact ih.2 y q
theorem okN_rep {x : D} {n m : Nat} (h : ok x) (h2 : pl 59 x = true) (hn : n ≤ m) : okN m (List.replicate n [x]).flatten := ⟨fun y hy => by rw [rep_len.2 y hy]; exact ⟨h, h2⟩, by rw [rep_len.1]; exact hn⟩
theorem okI {i : Int} : ok (.int i) ∧ pl 59 (.int i) = true := ⟨rfl, by unfold pl; rfl⟩
theorem changed_ok {l : List Int} {a b kd : Int} (hl : l.length ≤ 1014) (h14 : 14 ≤ l.length) : okX (changedG l a b kd) := by
  have hL : okN 1014 (l.map D.int) := okN_ints hl
  unfold changedG
  split
  · exact okX_N (okN_app (okN_app (okN_cut hL) (okN_one okI.1 okI.2)) (okN_cut hL)) (by decide)
  split
  · exact okX_N (okN_app (okN_cut hL) (okN_cut hL)) (by decide)
  split
  · exact okX_N (okN_app (okN_app (okN_cut hL) (okN_one okI.1 okI.2)) (okN_cut hL)) (by decide)
  split
  · exact okX_N (okN_app (okN_app (okN_app (okN_app (okN_cut hL) (okN_one okI.1 okI.2)) (okN_cut hL)) (okN_rep (m := 1) okI.1 okI.2 (by split <;> decide))) (okN_cut hL)) (by decide)
  split
  · refine okX_N (okN_app (okN_ints (n := 2000) ?_) (okN_cut hL)) (by decide)
    unfold h12
    rw [List.length_append, List.length_append, List.length_append, List.length_take, List.length_take, List.length_drop]
    show _ + 1 + _ + 2 ≤ _
    omega
  split
  · exact okX_N (okN_app (okN_app (okN_cut hL) (okN_ints (n := 2) (l := [255 - l.getD 12 0, 255 - l.getD 13 0]) (Nat.le_of_ble_eq_true rfl))) (okN_cut hL)) (by decide)
  split
  · obtain ⟨o1, o2⟩ := odds_ok (j := (b % 6).toNat) (by omega)
    exact okX_N (okN_app (okN_app (okN_cut hL) (okN_one o1 o2)) (okN_cut hL)) (by decide)
  · have hx : ∀ x, x ∈ things (l.map D.int) → okX x := fun x hx => by
      simp only [things, List.mem_cons, List.mem_nil_iff, or_false] at hx
      rcases hx with h | h | h | h | h | h | h <;> subst h
      · exact ⟨rfl, fun L e => by cases e⟩
      · exact ⟨rfl, fun L e => by cases e⟩
      · exact ⟨rfl, fun L e => by cases e⟩
      · exact okX_N (okN_cut hL) (by decide)
      · exact okX_ints (l := []) (by decide)
      · exact ⟨rfl, fun L e => by cases e⟩
      · exact okX_N (okN_app hL (okN_rep (m := 1001) okI.1 okI.2 (by decide))) (by decide)
    exact hx _ (getD_in (by show _ < 7; omega))
theorem atF_in {l : List Int} {k s : Int} (h : 14 ≤ l.length) : 0 ≤ atF l k s ∧ atF l k s < (l.length : Int) := by
  have hx : ∀ x, x ∈ ([s / 10 % (l.length : Int), s / 10 % 14] : List Int) → 0 ≤ x ∧ x < (l.length : Int) := fun x hx => by
    have m1 := Int.emod_nonneg (s / 10) (show (l.length : Int) ≠ 0 by omega)
    have m2 := Int.emod_lt_of_pos (s / 10) (show 0 < (l.length : Int) by omega)
    simp only [List.mem_cons, List.mem_nil_iff, or_false] at hx
    rcases hx with h | h <;> subst h <;> omega
  exact hx _ (getD_in (by show _ < 2; omega))
def p_changed : List D → D → Prop := fun ds d => ∃ (l : List Int) (k s : Int), ds = [.tup (l.map D.int), .int k, .int s] ∧ 14 ≤ l.length ∧ l.length ≤ 1014 ∧ Bytes l ∧ d = changedF l k s
def p_law : List D → D → Prop := fun ds d => ∃ ns : List Int, ds = [.scr (ns.map D.int)] ∧ ns.length ≤ 63 ∧ d = .bl true

abbrev s_is_number : Stmt := topS 26
abbrev N_is_number : List Str := ["thing", "most"]
theorem sc_is_number : FnScope N_is_number ["thing", "most"] (defScope s_is_number) := ⟨rfl, rfl, rfl, by decide +kernel, rfl, by decide +kernel, by decide +kernel⟩

theorem ok_is_number {P : Program} {w : World} {K : PySem.W.Frag} {mg : Str → Option Value} {base : Heap} {a : Addr} {fd : FuncData} {c : Cad} (T : Txt c K mg) (F : Fun K "is_number" "is_number" s_is_number a fd)  :
    FnOk P w K mg base CX0 1 a fd ["thing", "most"] (SpG K (PV (p_is_number))) := by
  refine Fn.ofV F sc_is_number (fun ds d ⟨_, _, h, _⟩ => by rw [h]; rfl) fun cdv A outer s H E hr => ?_
  have nd := sc_is_number.nd
  refine ⟨_, (pss_one (ps_ret (pe_and (pe_callB (call_isiA (K := K)) (by rfl) T.b_isinstance (by decide +kernel) (pa_cons (pv 0) (pa_cons (pe_bltn (v := .ty "int") (by rfl) T.b_int (by decide +kernel) rfl) pa_nil))) (pe_and (pe_not (pe_callB (call_isiA (K := K)) (by rfl) T.b_isinstance (by decide +kernel) (pa_cons (pv 0) (pa_cons (pe_bltn (v := .ty "bool") (by rfl) T.b_bool (by decide +kernel) rfl) pa_nil)))) (pe_one (pe_chain op_leU op_leU pe_int (pv 0) (pv 1))))))), ?_⟩
  try dsimp only [L2.cxOf, L2.Cx.nox, L2.Cx.wish]

  intro ds d h
  obtain ⟨x, m, rfl, hx, rfl⟩ := h
  show Exec K [] _ _ [.val x, .val (.int m)] _ _ _ _
  refine x_ret (e1 := [.val x, .val (.int m)]) (d := .bl (isWhole 0 m x)) ?_ rfl
  cases x with
  | int i =>
    refine ev_is (d1 := ?_) ?_ ?_
    rotate_left
    · walk_at "ev"
    · rfl
  | bl i =>
    refine ev_is (d1 := .bl (true && (!true && (false && false)))) ?_ rfl
    refine ev_and (by walk_at "ev") fun _ => ?_
    refine ev_and (by walk_at "ev") fun h => ?_
    cases h
  | ty n => cases hx
  | ref n => cases hx
  | scr n => cases hx
  | obj n m => cases hx
  | exc n => cases hx
  | _ =>
    refine ev_is (d1 := .bl (false && (false && (false && false)))) ?_ rfl
    exact ev_and (by walk_at "ev") fun h => by cases h

abbrev s_are_bytes : Stmt := topS 27
abbrev N_are_bytes : List Str := ["thing", "most", "byte"]
theorem sc_are_bytes : FnScope N_are_bytes ["thing", "most"] (defScope s_are_bytes) := ⟨rfl, rfl, rfl, by decide +kernel, rfl, by decide +kernel, by decide +kernel⟩

theorem ok_are_bytes {P : Program} {w : World} {K : PySem.W.Frag} {mg : Str → Option Value} {base : Heap} {a : Addr} {fd : FuncData} {c : Cad} (T : Txt c K mg) (F : Fun K "are_bytes" "are_bytes" s_are_bytes a fd) (C_is_number : Df P w K mg base 1 "is_number" (SpG K (PV (p_is_number)))) :
    FnOk P w K mg base CX0 2 a fd ["thing", "most"] (SpG K (PV (p_are_bytes))) := by
  refine Fn.ofV F sc_are_bytes (fun ds d ⟨_, _, h, _⟩ => by rw [h]; rfl) fun cdv A outer s H E hr => ?_
  have nd := sc_are_bytes.nd
  refine ⟨_, (pss_one (ps_ret (pe_and (pe_callB (call_isiA (K := K)) (by rfl) T.b_isinstance (by decide +kernel) (pa_cons (pv 0) (pa_cons (pe_bltn (v := .ty "tuple") (by rfl) T.b_tuple (by decide +kernel) rfl) pa_nil))) (pe_and (pe_cmpR op_leU (pe_callB (call_lenU (K := K)) (by rfl) T.b_len (by decide +kernel) (pa_cons (pv 0) pa_nil)) (pv 1) (nomark _)) (pe_one (pe_callB (call_allU (K := K) rfl) (by rfl) T.b_all (by decide +kernel) (pa_cons (pe_lc (own := [("byte", 2)]) (g := (gName 2)) rfl nd (pi_seqU (K := K) (pv 0)) (blkOk_by (own := [("byte", 2)]) (N := N_are_bytes) (sc := defScope s_are_bytes) (by decide +kernel)) (fun _ _ _ _ _ => (pg_name (i := 2) nd rfl (by first | exact Or.inl rfl | exact Or.inr rfl))) (fun _ _ _ _ _ => pts_nil) (fun _ _ _ _ _ => (pe_df C_is_number hr (by decide) rfl (pa_cons (pv 2) (pa_cons (pe_glob (v := .int 255) rfl T.c_MOST_BYTE.choose_spec ⟨_, rfl⟩) pa_nil))))) pa_nil))))))), ?_⟩
  try dsimp only [L2.cxOf, L2.Cx.nox, L2.Cx.wish]

  intro ds d h
  obtain ⟨x, m, rfl, hx, rfl⟩ := h
  show Exec K [] _ _ [.val x, .val (.int m), .any] _ _ _ _
  refine x_ret (e1 := [.val x, .val (.int m), .any]) (d := .bl (isRowI m x)) ?_ rfl
  cases x with
  | tup l =>
    obtain ⟨hx, hl⟩ := hx
    have hl' := sz100 hl
    refine ev_is (d1 := ?_) ?_ ?_
    rotate_left
    · walk_at "ev"
    · rw [Bool.true_and]; rfl
  | ty n => cases hx
  | ref n => cases hx
  | scr n => cases hx
  | obj n m => cases hx
  | exc n => cases hx
  | _ =>
    refine ev_is (d1 := .bl (false && (false && false))) ?_ rfl
    exact ev_and (by walk_at "ev") fun h => by cases h

abbrev s_of_two : Stmt := topS 28
abbrev N_of_two : List Str := ["row", "place"]
theorem sc_of_two : FnScope N_of_two ["row", "place"] (defScope s_of_two) := ⟨rfl, rfl, rfl, by decide +kernel, rfl, by decide +kernel, by decide +kernel⟩

theorem ok_of_two {P : Program} {w : World} {K : PySem.W.Frag} {mg : Str → Option Value} {base : Heap} {a : Addr} {fd : FuncData} {c : Cad} (T : Txt c K mg) (F : Fun K "of_two" "of_two" s_of_two a fd)  :
    FnOk P w K mg base CX0 1 a fd ["row", "place"] (SpG K (PV (p_of_two))) := by
  refine Fn.ofV F sc_of_two (fun ds d ⟨_, _, h, _⟩ => by rw [h]; rfl) fun cdv A outer s H E hr => ?_
  have nd := sc_of_two.nd
  refine ⟨_, (pss_one (ps_ret (pe_op (op_addU (K := K)) (pe_op (op_mulA (K := K)) (pe_ix (ix_U (K := K)) (pv 0) (pv 1) (fun _ _ => rfl)) pe_int) (pe_ix (ix_U (K := K)) (pv 0) (pe_op (op_addU (K := K)) (pv 1) pe_int) (fun _ _ => rfl))))), ?_⟩
  try dsimp only [L2.cxOf, L2.Cx.nox, L2.Cx.wish]

  intro ds d h
  obtain ⟨l, p, rfl, hp, hb, rfl⟩ := h
  exact x_ret (e1 := [.val (.tup (l.map D.int)), .val (.int (p : Nat))]) (d := .int (wAt l p)) (ev_is (ev_o (ev_o (ev_o (ev_var rfl) (ev_var rfl) (oe_ixt (atI_ints (by omega) (by omega)))) ev_int (oe_mulA (.inl (Or.inr ⟨by decide, by decide⟩)))) (ev_o (ev_var rfl) (ev_o (ev_var rfl) ev_int oe_add) (oe_ixt (atI_ints (by omega) (by omega)))) oe_add) (by unfold wAt; rw [show ((p : Nat) : Int).toNat = p by omega, show (((p : Nat) : Int) + 1).toNat = p + 1 by omega])) rfl

abbrev s_sum_of : Stmt := topS 29
abbrev N_sum_of : List Str := ["head", "total", "place"]
theorem sc_sum_of : FnScope N_sum_of ["head"] (defScope s_sum_of) := ⟨rfl, rfl, rfl, by decide +kernel, rfl, by decide +kernel, by decide +kernel⟩

theorem ok_sum_of {P : Program} {w : World} {K : PySem.W.Frag} {mg : Str → Option Value} {base : Heap} {a : Addr} {fd : FuncData} {c : Cad} (T : Txt c K mg) (F : Fun K "sum_of" "sum_of" s_sum_of a fd) (C_of_two : Df P w K mg base 1 "of_two" (SpG K (PV (p_of_two)))) :
    FnOk P w K mg base CX0 2 a fd ["head"] (SpG K (PV (p_sum_of))) := by
  refine Fn.ofV F sc_sum_of (fun ds d ⟨_, h, _⟩ => by rw [h]; rfl) fun cdv A outer s H E hr => ?_
  have nd := sc_sum_of.nd
  refine ⟨_, (pss_cons (ps_set (i := 1) nd rfl (by first | exact Or.inl rfl | exact Or.inr rfl) pe_int) (pss_cons (ps_for PassesOwn.never rfl (pi_range3 rfl T.b_range (pa_cons pe_int (pa_cons (pe_glob (v := .int 12) rfl T.c_SUM_AT.choose_spec ⟨_, rfl⟩) (pa_cons pe_int pa_nil)))) (pg_name (i := 2) nd rfl (by first | exact Or.inl rfl | exact Or.inr rfl)) (pss_one (ps_aug (i := 1) nd rfl (by first | exact Or.inl rfl | exact Or.inr rfl) (pe_df C_of_two hr (by decide) rfl (pa_cons (pv 0) (pa_cons (pv 2) pa_nil))) (ip_addT (K := K))))) (pss_cons (ps_while PassesOwn.never (pt_cmpR op_gtU (pv 1) (pe_glob (v := .int 65535) rfl T.c_MOST_WORD.choose_spec ⟨_, rfl⟩) (nomark _)) (pss_one (ps_set (i := 1) nd rfl (by first | exact Or.inl rfl | exact Or.inr rfl) (pe_op (op_addU (K := K)) (pe_op op_divU (pv 1) (pe_op (op_addU (K := K)) (pe_glob (v := .int 65535) rfl T.c_MOST_WORD.choose_spec ⟨_, rfl⟩) pe_int)) (pe_op op_modU (pv 1) (pe_op (op_addU (K := K)) (pe_glob (v := .int 65535) rfl T.c_MOST_WORD.choose_spec ⟨_, rfl⟩) pe_int)))))) (pss_one (ps_ret (pe_op op_subU (pe_glob (v := .int 65535) rfl T.c_MOST_WORD.choose_spec ⟨_, rfl⟩) (pv 1))))))), ?_⟩
  try dsimp only [L2.cxOf, L2.Cx.nox, L2.Cx.wish]

  intro ds d h
  obtain ⟨l, rfl, hl, hb, rfl⟩ := h
  show Exec K [] _ _ [.val (.tup (l.map D.int)), .any, .any] _ _ _ _
  refine x_seq (x_set (d := .int (tots l 0)) (by walk_at "ev") ?_)
  refine x_seq (x_forN (fun i e => ∃ v, e = [.val (.tup (l.map D.int)), .val (.int (tots l i)), v]) (ds := (List.range 6).map fun k : Nat => .int (0 + (k : Int) * 2)) (ei_is (ei_r3 ev_int (by walk_at "ev") ev_int (rg_mul (c := 2) (n := 6) (by decide) (by decide) (by decide))) (by rfl)) ⟨_, rfl⟩ ?_ ?_)
  · rintro i d e hd ⟨v, rfl⟩
    rw [List.getElem?_map] at hd
    obtain ⟨j, hj, rfl⟩ := Option.map_eq_some_iff.mp hd
    obtain ⟨h1, h2⟩ := List.getElem?_eq_some_iff.mp hj
    rw [List.length_range] at h1
    rw [List.getElem_range] at h2
    subst h2
    show Exec K [] _ _ [.val (.tup (l.map D.int)), .val (.int (tots l i)), .val (.int (0 + (i : Int) * 2))] _ _ _ _
    refine x_augI (k := wAt l (2 * i)) rfl (e1 := [.val (.tup (l.map D.int)), .val (.int (tots l i)), .val (.int (0 + (i : Int) * 2))]) (ev_callV (by walk_at "ea") rfl ⟨l, 2 * i, ?_, by omega, hb, rfl⟩) ⟨_, rfl⟩
    rw [show (0 + (i : Int) * 2) = ((2 * i : Nat) : Int) by omega]
  rintro e ⟨v, rfl⟩
  rw [List.length_map, List.length_range]
  obtain ⟨t0, t1⟩ := tots_in hb 6
  unfold sumF
  generalize tots l 6 = t at t0 t1 ⊢
  refine x_seq (x_while (fun n e => ∃ u : Int, e = [.val (.tup (l.map D.int)), .val (.int u), v] ∧ u.toNat = n ∧ 0 ≤ u ∧ u ≤ 1000000 ∧ fin u = fin t) t.toNat ⟨t, rfl, rfl, t0, by omega, rfl⟩ ?_)
  rintro n e ⟨u, rfl, hu, u0, u1, hf⟩
  refine ⟨decide (65535 < u), [.val (.tup (l.map D.int)), .val (.int u), v], by walk_at "et", fun hc => ?_, fun hc => ?_⟩
  · have hc := of_decide_eq_true hc
    obtain ⟨f1, f2, f3⟩ := fin_step hc u1
    exact x_set (d := .int (u / 65536 + u % 65536)) (ev_is (ev_o (ev_o (ev_var rfl) (ev_is (d2 := .int 65536) (by walk_at "ev") (by rfl)) (oe_div (by decide))) (ev_o (ev_var rfl) (ev_is (d2 := .int 65536) (by walk_at "ev") (by rfl)) (oe_mod (by decide))) oe_add) (by rfl)) ⟨(u / 65536 + u % 65536).toNat, by omega, _, rfl, rfl, f3, by omega, by rw [f1, hf]⟩
  · have hc := of_decide_eq_false hc
    exact x_ret (e1 := [.val (.tup (l.map D.int)), .val (.int u), v]) (d := .int (65535 - fin t)) (ev_is (by walk_at "ev") (by rw [← hf, fin_small u0 (by omega)])) rfl

abbrev s_Packet___init__ : Stmt := inClass (topS 30) 0
abbrev N_Packet___init__ : List Str := ["self", "source", "target", "kind", "life", "name", "first", "more", "data", "thing"]
theorem sc_Packet___init__ : FnScope N_Packet___init__ ["self", "source", "target", "kind", "life", "name", "first", "more", "data"] (defScope s_Packet___init__) := ⟨rfl, rfl, rfl, by decide +kernel, rfl, by decide +kernel, by decide +kernel⟩

theorem ok_Packet___init__ {P : Program} {w : World} {K : PySem.W.Frag} {mg : Str → Option Value} {base : Heap} {a : Addr} {fd : FuncData} {c : Cad} (T : Txt c K mg) (F : Fun K "__init__" "Packet.__init__" s_Packet___init__ a fd) (C_are_bytes : Df P w K mg base 2 "are_bytes" (SpG K (PV (p_are_bytes)))) (C_is_number : Df P w K mg base 1 "is_number" (SpG K (PV (p_is_number)))) :
    FnOk P w K mg base (L2.CX P w) 3 a fd ["self", "source", "target", "kind", "life", "name", "first", "more", "data"] (SpG K (PO (p_init c))) := by
  refine Fn.ofP F sc_Packet___init__ (fun o ds r o' ⟨_, ⟨_, _, _, _, _, _, _, _, h, _⟩, _⟩ => by rw [h]; rfl) fun cdv A outer s H E hr => ?_
  have nd := sc_Packet___init__.nd
  refine ⟨_, (pss_cons (ps_if (pt_not (pt_val (pe_callB (call_allU (K := K) rfl) (by rfl) T.b_all (by decide +kernel) (pa_cons (pe_lc (own := [("thing", 9)]) (g := (gName 9)) rfl nd (pi_seqU (K := K) (pe_tup (pa_cons (pv 1) (pa_cons (pv 2) (pa_cons (pv 3) (pa_cons (pv 4) pa_nil)))))) (blkOk_by (own := [("thing", 9)]) (N := N_Packet___init__) (sc := defScope s_Packet___init__) (by decide +kernel)) (fun _ _ _ _ _ => (pg_name (i := 9) nd rfl (by first | exact Or.inl rfl | exact Or.inr rfl))) (fun _ _ _ _ _ => pts_nil) (fun _ _ _ _ _ => (pe_df C_is_number hr (by decide) rfl (pa_cons (pv 9) (pa_cons (pe_glob (v := .int 255) rfl T.c_MOST_BYTE.choose_spec ⟨_, rfl⟩) pa_nil))))) pa_nil)))) (pss_one (ps_raiseC rfl (takes_of rfl rfl rfl rfl) (pmk_own PySem.F.excBase_ValueError T.e_NoPacket T.g_NoPacket T.k_NoPacket (raises_own T.b_NoPacket T.t_NoPacket) rfl))) pss_nil) (pss_cons (ps_if (PW.pt (pw_or (pt_not (pt_val (pe_df C_is_number hr (by decide) rfl (pa_cons (pv 5) (pa_cons (pe_glob (v := .int 65535) rfl T.c_MOST_WORD.choose_spec ⟨_, rfl⟩) pa_nil))))) (pw_or (pt_not (pt_val (pe_df C_is_number hr (by decide) rfl (pa_cons (pv 6) (pa_cons (pe_glob (v := .int 1000) rfl T.c_MOST_TOGETHER.choose_spec ⟨_, rfl⟩) pa_nil))))) (pw_or1 (pt_not (pt_val (pe_callB (call_isiA (K := K)) (by rfl) T.b_isinstance (by decide +kernel) (pa_cons (pv 7) (pa_cons (pe_bltn (v := .ty "bool") (by rfl) T.b_bool (by decide +kernel) rfl) pa_nil))))))))) (pss_one (ps_raiseC rfl (takes_of rfl rfl rfl rfl) (pmk_own PySem.F.excBase_ValueError T.e_NoPacket T.g_NoPacket T.k_NoPacket (raises_own T.b_NoPacket T.t_NoPacket) rfl))) pss_nil) (pss_cons (ps_if (pt_not (pt_val (pe_df C_are_bytes hr (by decide) rfl (pa_cons (pv 8) (pa_cons (pe_op op_subU (pe_glob (v := .int 1000) rfl T.c_MOST_TOGETHER.choose_spec ⟨_, rfl⟩) (pv 6)) pa_nil))))) (pss_one (ps_raiseC rfl (takes_of rfl rfl rfl rfl) (pmk_own PySem.F.excBase_ValueError T.e_NoPacket T.g_NoPacket T.k_NoPacket (raises_own T.b_NoPacket T.t_NoPacket) rfl))) pss_nil) (pss_cons (ps_fld (pv 0) (pv 1) rfl) (pss_cons (ps_fld (pv 0) (pv 2) rfl) (pss_cons (ps_fld (pv 0) (pv 3) rfl) (pss_cons (ps_fld (pv 0) (pv 4) rfl) (pss_cons (ps_fld (pv 0) (pv 5) rfl) (pss_cons (ps_fld (pv 0) (pv 6) rfl) (pss_cons (ps_fld (pv 0) (pv 7) rfl) (pss_one (ps_fld (pv 0) (pv 8) rfl)))))))))))), ?_⟩
  try dsimp only [L2.cxOf, L2.Cx.nox, L2.Cx.wish]

  intro o ds r o' h
  obtain ⟨rfl, ⟨s, t, k, l, n, f, m, d, rfl, hs, ht, hk, hl, hn, hf, hm, hd⟩, h⟩ := h
  have hbad : goodL [s, t, k, l, n, f, m, d] = false → r = .exc c.NoPacket ∧ o' = .obj c.Packet [] := fun hb => by
    rcases h with ⟨p, e, hp, _⟩ | ⟨_, e⟩
    · rw [e, good_args hp] at hb; cases hb
    · exact e
  show Exec K [0] _ _ [.own (.obj c.Packet []), .val s, .val t, .val k, .val l, .val n, .val f, .val m, .val d, .any] _ _ _ _
  refine x_seq (x_if (c := !(isWhole 0 255 s && (isWhole 0 255 t && (isWhole 0 255 k && (isWhole 0 255 l && true))))) (e1 := [.own (.obj c.Packet []), .val s, .val t, .val k, .val l, .val n, .val f, .val m, .val d, .any]) (et_not (et_test (ev_c (ea_cons (Ev.give (o := .lst ([s, t, k, l].map fun x => D.bl (isWhole 0 255 x))) (en_lc0d (xs := [s, t, k, l]) (f := fun x => .bl (isWhole 0 255 x)) (ei_t (l := [s, t, k, l]) (by walk_at "ev")) (by walk_at "no") (sz_le (Nat.le_of_ble_eq_true rfl)) fun x hx => ?_)) ea_nil) (ce_allm (xs := [s, t, k, l]) (g := isWhole 0 255) (.inl (by rfl)))))) (fun hc => x_raise ?_) fun hc => x_next ?_)
  · have hx2 : ok x := by
      simp only [List.mem_cons, List.mem_nil_iff, or_false] at hx
      rcases hx with q | q | q | q <;> subst q <;> assumption
    exact ev_callV (e1 := [.own (.obj c.Packet []), .val s, .val t, .val k, .val l, .val n, .val f, .val m, .val d, .val x]) (by walk_at "ea") rfl ⟨_, _, rfl, hx2, rfl⟩
  · rw [Bool.not_eq_true'] at hc
    obtain ⟨rfl, rfl⟩ := hbad (by rw [goodL_eq, show (isWhole 0 255 s && (isWhole 0 255 t && (isWhole 0 255 k && (isWhole 0 255 l && true)))) = false from hc, Bool.false_and])
    exact ⟨rfl, rfl⟩
  rw [Bool.not_eq_false'] at hc
  show Exec K [0] _ _ [.own (.obj c.Packet []), .val s, .val t, .val k, .val l, .val n, .val f, .val m, .val d, .any] _ _ _ _
  refine x_seq (x_if (c := !isWhole 0 65535 n || (!isWhole 0 1000 f || !isBl m)) (e1 := [.own (.obj c.Packet []), .val s, .val t, .val k, .val l, .val n, .val f, .val m, .val d, .any]) (et_or (et_not (et_test (ev_callV (by walk_at "ea") rfl ⟨_, _, rfl, hn, rfl⟩))) fun _ => et_or (et_not (et_test (ev_callV (by walk_at "ea") rfl ⟨_, _, rfl, hf, rfl⟩))) fun _ => et_not (et_test (ev_c (by walk_at "ea") (ce_isi (by walk_at "rd") (isd_bl hm))))) (fun hc2 => x_raise ?_) fun hc2 => x_next ?_)
  · obtain ⟨rfl, rfl⟩ := hbad (by
      rw [goodL_eq]
      have : (isWhole 0 65535 n && (isWhole 0 1000 f && isBl m)) = false := by
        revert hc2
        cases isWhole 0 65535 n <;> cases isWhole 0 1000 f <;> cases isBl m <;> simp
      rw [this, Bool.false_and, Bool.and_false])
    exact ⟨rfl, rfl⟩
  have hc3 : (isWhole 0 65535 n && (isWhole 0 1000 f && isBl m)) = true := by
    cases q1 : isWhole 0 65535 n <;> cases q2 : isWhole 0 1000 f <;> cases q3 : isBl m <;> rw [q1, q2, q3] at hc2 <;> first | rfl | cases hc2
  have hf1 : isWhole 0 1000 f = true := by
    rw [Bool.and_eq_true, Bool.and_eq_true] at hc3
    exact hc3.2.1
  obtain ⟨fi, rfl, f0, f1⟩ := whole_int hf1
  show Exec K [0] _ _ [.own (.obj c.Packet []), .val s, .val t, .val k, .val l, .val n, .val (.int fi), .val m, .val d, .any] _ _ _ _
  refine x_seq (x_if (c := !isRowI (1000 - fi) d) (e1 := [.own (.obj c.Packet []), .val s, .val t, .val k, .val l, .val n, .val (.int fi), .val m, .val d, .any]) (et_not (et_test (ev_callV (by walk_at "ea") rfl ⟨_, _, rfl, hd, rfl⟩))) (fun hc4 => x_raise ?_) fun hc4 => x_next ?_)
  · rw [Bool.not_eq_true'] at hc4
    obtain ⟨rfl, rfl⟩ := hbad (by
      rw [goodL_eq, show isRowI (1000 - intOf (.int fi)) d = false from hc4, Bool.and_false, Bool.and_false])
    exact ⟨rfl, rfl⟩
  rw [Bool.not_eq_false'] at hc4
  have hgood : goodL [s, t, k, l, n, .int fi, m, d] = true := by
    rw [goodL_eq, show isRowI (1000 - intOf (.int fi)) d = true from hc4, hc3, show (isWhole 0 255 s && (isWhole 0 255 t && (isWhole 0 255 k && (isWhole 0 255 l && true)))) = true from hc]; rfl
  rcases h with ⟨p, e, hp, rfl, rfl⟩ | ⟨e, _⟩
  · obtain ⟨s', t', k', l', n', f', m', d'⟩ := p
    have e : [s, t, k, l, n, .int fi, m, d] = [.int s', .int t', .int k', .int l', .int n', .int f', .bl m', .tup (d'.map D.int)] := e
    cases e
    clear hc3 hc4 hgood hbad hc hc2
    show Exec K [0] _ _ [.own (.obj c.Packet []), .val (.int s'), .val (.int t'), .val (.int k'), .val (.int l'), .val (.int n'), .val (.int fi), .val (.bl m'), .val (.tup (d'.map D.int)), .any] _ _ _ _
    refine x_seq (x_fld (d := .int s') (ev_var rfl) rfl T.cl_Packet T.n_Packet_source (Nat.le_of_ble_eq_true rfl) ?_)
    show Exec K [0] _ _ [.own (.obj c.Packet [("source", .int s')]), .val (.int s'), .val (.int t'), .val (.int k'), .val (.int l'), .val (.int n'), .val (.int fi), .val (.bl m'), .val (.tup (d'.map D.int)), .any] _ _ _ _
    refine x_seq (x_fld (d := .int t') (ev_var rfl) rfl T.cl_Packet T.n_Packet_target (Nat.le_of_ble_eq_true rfl) ?_)
    show Exec K [0] _ _ [.own (.obj c.Packet [("source", .int s'), ("target", .int t')]), .val (.int s'), .val (.int t'), .val (.int k'), .val (.int l'), .val (.int n'), .val (.int fi), .val (.bl m'), .val (.tup (d'.map D.int)), .any] _ _ _ _
    refine x_seq (x_fld (d := .int k') (ev_var rfl) rfl T.cl_Packet T.n_Packet_kind (Nat.le_of_ble_eq_true rfl) ?_)
    show Exec K [0] _ _ [.own (.obj c.Packet [("source", .int s'), ("target", .int t'), ("kind", .int k')]), .val (.int s'), .val (.int t'), .val (.int k'), .val (.int l'), .val (.int n'), .val (.int fi), .val (.bl m'), .val (.tup (d'.map D.int)), .any] _ _ _ _
    refine x_seq (x_fld (d := .int l') (ev_var rfl) rfl T.cl_Packet T.n_Packet_life (Nat.le_of_ble_eq_true rfl) ?_)
    show Exec K [0] _ _ [.own (.obj c.Packet [("source", .int s'), ("target", .int t'), ("kind", .int k'), ("life", .int l')]), .val (.int s'), .val (.int t'), .val (.int k'), .val (.int l'), .val (.int n'), .val (.int fi), .val (.bl m'), .val (.tup (d'.map D.int)), .any] _ _ _ _
    refine x_seq (x_fld (d := .int n') (ev_var rfl) rfl T.cl_Packet T.n_Packet_name (Nat.le_of_ble_eq_true rfl) ?_)
    show Exec K [0] _ _ [.own (.obj c.Packet [("source", .int s'), ("target", .int t'), ("kind", .int k'), ("life", .int l'), ("name", .int n')]), .val (.int s'), .val (.int t'), .val (.int k'), .val (.int l'), .val (.int n'), .val (.int fi), .val (.bl m'), .val (.tup (d'.map D.int)), .any] _ _ _ _
    refine x_seq (x_fld (d := .int fi) (ev_var rfl) rfl T.cl_Packet T.n_Packet_first (Nat.le_of_ble_eq_true rfl) ?_)
    show Exec K [0] _ _ [.own (.obj c.Packet [("source", .int s'), ("target", .int t'), ("kind", .int k'), ("life", .int l'), ("name", .int n'), ("first", .int fi)]), .val (.int s'), .val (.int t'), .val (.int k'), .val (.int l'), .val (.int n'), .val (.int fi), .val (.bl m'), .val (.tup (d'.map D.int)), .any] _ _ _ _
    refine x_seq (x_fld (d := .bl m') (ev_var rfl) rfl T.cl_Packet T.n_Packet_more (Nat.le_of_ble_eq_true rfl) ?_)
    show Exec K [0] _ _ [.own (.obj c.Packet [("source", .int s'), ("target", .int t'), ("kind", .int k'), ("life", .int l'), ("name", .int n'), ("first", .int fi), ("more", .bl m')]), .val (.int s'), .val (.int t'), .val (.int k'), .val (.int l'), .val (.int n'), .val (.int fi), .val (.bl m'), .val (.tup (d'.map D.int)), .any] _ _ _ _
    exact x_fld (d := .tup (d'.map D.int)) (ev_var rfl) rfl T.cl_Packet T.n_Packet_data (Nat.le_of_ble_eq_true rfl) ⟨rfl, rfl⟩
  · rw [hgood] at e; cases e

abbrev s_packet_by : Stmt := topS 31
abbrev N_packet_by : List Str := ["thing", "name", "first"]
theorem sc_packet_by : FnScope N_packet_by ["thing"] (defScope s_packet_by) := ⟨rfl, rfl, rfl, by decide +kernel, rfl, by decide +kernel, by decide +kernel⟩

theorem ok_packet_by {P : Program} {w : World} {K : PySem.W.Frag} {mg : Str → Option Value} {base : Heap} {a : Addr} {fd : FuncData} {c : Cad} (T : Txt c K mg) (F : Fun K "packet_by" "packet_by" s_packet_by a fd) (M_Packet : Mx P w K mg base 3 "Packet" c.Packet (SpG K (PO (p_init c)))) (C_are_bytes : Df P w K mg base 2 "are_bytes" (SpG K (PV (p_are_bytes)))) (C_of_two : Df P w K mg base 1 "of_two" (SpG K (PV (p_of_two)))) (C_sum_of : Df P w K mg base 2 "sum_of" (SpG K (PV (p_sum_of)))) :
    FnOk P w K mg base (L2.CX P w) 5 a fd ["thing"] (SpG K (PR (p_by c))) := by
  refine Fn.ofX F sc_packet_by (fun ds d ⟨_, h, _⟩ => by rw [h]; rfl) fun cdv A outer s H E hr => ?_
  have nd := sc_packet_by.nd
  refine ⟨_, (pss_cons (ps_if (PW.pt (pw_or (pt_not (pt_val (pe_df C_are_bytes hr (by decide) rfl (pa_cons (pv 0) (pa_cons (pe_op (op_addU (K := K)) (pe_glob (v := .int 14) rfl T.c_HEAD.choose_spec ⟨_, rfl⟩) (pe_glob (v := .int 1000) rfl T.c_MOST_TOGETHER.choose_spec ⟨_, rfl⟩)) pa_nil))))) (pw_or1 (pt_cmpR op_ltU (pe_callB (call_lenU (K := K)) (by rfl) T.b_len (by decide +kernel) (pa_cons (pv 0) pa_nil)) (pe_glob (v := .int 14) rfl T.c_HEAD.choose_spec ⟨_, rfl⟩) (nomark _))))) (pss_one (ps_raiseC rfl (takes_of rfl rfl rfl rfl) (pmk_own PySem.F.excBase_ValueError T.e_NoPacket T.g_NoPacket T.k_NoPacket (raises_own T.b_NoPacket T.t_NoPacket) rfl))) pss_nil) (pss_cons (ps_if (PW.pt (pw_or (pt_cmpR op_gtU (pe_ix (ix_U (K := K)) (pv 0) (pe_glob (v := .int 8) rfl T.c_MORE_AT.choose_spec ⟨_, rfl⟩) (fun _ _ => rfl)) pe_int (nomark _)) (pw_or (pt_cmpR (op_neU (K := K) hr.units) (pe_ix (ix_U (K := K)) (pv 0) (pe_glob (v := .int 9) rfl T.c_NOUGHT_AT.choose_spec ⟨_, rfl⟩) (fun _ _ => rfl)) pe_int (nomark _)) (pw_or1 (pt_cmpR (op_neU (K := K) hr.units) (pe_df C_of_two hr (by decide) rfl (pa_cons (pv 0) (pa_cons (pe_glob (v := .int 10) rfl T.c_MANY_AT.choose_spec ⟨_, rfl⟩) pa_nil))) (pe_op op_subU (pe_callB (call_lenU (K := K)) (by rfl) T.b_len (by decide +kernel) (pa_cons (pv 0) pa_nil)) (pe_glob (v := .int 14) rfl T.c_HEAD.choose_spec ⟨_, rfl⟩)) (nomark _)))))) (pss_one (ps_raiseC rfl (takes_of rfl rfl rfl rfl) (pmk_own PySem.F.excBase_ValueError T.e_NoPacket T.g_NoPacket T.k_NoPacket (raises_own T.b_NoPacket T.t_NoPacket) rfl))) pss_nil) (pss_cons (ps_if (pt_cmpR (op_neU (K := K) hr.units) (pe_df C_of_two hr (by decide) rfl (pa_cons (pv 0) (pa_cons (pe_glob (v := .int 12) rfl T.c_SUM_AT.choose_spec ⟨_, rfl⟩) pa_nil))) (pe_df C_sum_of hr (by decide) rfl (pa_cons (pv 0) pa_nil)) (nomark _)) (pss_one (ps_raiseC rfl (takes_of rfl rfl rfl rfl) (pmk_own PySem.F.excBase_ValueError T.e_NoPacket T.g_NoPacket T.k_NoPacket (raises_own T.b_NoPacket T.t_NoPacket) rfl))) pss_nil) (pss_cons (ps_par (i := 1) (j := 2) rfl nd rfl rfl (by decide) rfl rfl (pa_cons (pe_df C_of_two hr (by decide) rfl (pa_cons (pv 0) (pa_cons pe_int pa_nil))) (pa_cons (pe_df C_of_two hr (by decide) rfl (pa_cons (pv 0) (pa_cons pe_int pa_nil))) pa_nil)) (by rfl)) (pss_one (ps_ret (pe_mx M_Packet (takes_of rfl rfl rfl rfl) hr (by decide) rfl (pa_cons (pe_ix (ix_U (K := K)) (pv 0) pe_int (fun _ _ => rfl)) (pa_cons (pe_ix (ix_U (K := K)) (pv 0) pe_int (fun _ _ => rfl)) (pa_cons (pe_ix (ix_U (K := K)) (pv 0) pe_int (fun _ _ => rfl)) (pa_cons (pe_ix (ix_U (K := K)) (pv 0) pe_int (fun _ _ => rfl)) (pa_cons (pv 1) (pa_cons (pv 2) (pa_cons (pe_cmpR (op_eqU (K := K) hr.units) (pe_ix (ix_U (K := K)) (pv 0) (pe_glob (v := .int 8) rfl T.c_MORE_AT.choose_spec ⟨_, rfl⟩) (fun _ _ => rfl)) pe_int (nomark _)) (pa_cons (pe_slice (sl_U (K := K)) (pv 0) (po_some (pe_glob (v := .int 14) rfl T.c_HEAD.choose_spec ⟨_, rfl⟩)) po_none) pa_nil))))))))))))))), ?_⟩
  try dsimp only [L2.cxOf, L2.Cx.nox, L2.Cx.wish]

  intro ds r h
  obtain ⟨x, rfl, hx, rfl⟩ := h
  have hno : isRowI 1014 x = false → readD x = none := fun hf => by
    cases x with
    | tup L =>
      show (if _ then _ else _) = _
      cases q : L.all (isWhole 0 255) && isPk (L.map intOf) with
      | false => rfl
      | true =>
        rw [Bool.and_eq_true] at q
        obtain ⟨h1, _, _, _, _, h6⟩ := isPk_of q.2
        obtain ⟨_, hb⟩ := all_ints q.1
        have w := wAt_in hb 6
        have hf : (decide ((L.length : Int) ≤ 1014) && L.all (isWhole 0 255)) = false := hf
        rw [q.1, Bool.and_true] at hf
        have hf := of_decide_eq_false hf
        rw [List.length_map] at h6
        exact absurd h6 (by omega)
    | _ => rfl
  show Exec K [] _ _ [.val x, .any, .any] _ _ _ _
  cases hI : isRowI 1014 x with
  | false =>
    rw [hno hI]
    exact x_seq (x_if (c := true) (e1 := [.val x, .any, .any]) (et_or (c1 := true) (c2 := true) (et_not (c := false) (et_test (ev_callV (ea_cons (ev_var rfl) (ea_cons (ev_is (d2 := .int 1014) (by walk_at "ev") (by rfl)) ea_nil)) rfl ⟨_, _, rfl, hx, by rw [hI]⟩))) fun h => by cases h) (fun _ => x_raise rfl) fun h => by cases h)
  | true =>
    obtain ⟨l, rfl, hb, hz⟩ : ∃ l : List Int, x = .tup (l.map D.int) ∧ Bytes l ∧ (l.length : Int) ≤ 1014 := by
      cases x with
      | tup L =>
        have hI : (decide ((L.length : Int) ≤ 1014) && L.all (isWhole 0 255)) = true := hI
        rw [Bool.and_eq_true] at hI
        obtain ⟨h1, h2⟩ := all_ints hI.2
        exact ⟨L.map intOf, by rw [← h1], h2, by rw [List.length_map]; exact of_decide_eq_true hI.1⟩
      | _ => cases hI
    rw [read_ints hb]
    have lm : (l.map D.int).length = l.length := List.length_map _
    show Exec K [] _ _ [.val (.tup (l.map D.int)), .any, .any] _ _ _ _
    refine x_seq (x_if (c := decide ((l.length : Int) < 14)) (e1 := [.val (.tup (l.map D.int)), .any, .any]) (et_is (et_or (c1 := false) (c2 := decide ((l.length : Int) < 14)) (et_not (c := true) (et_test (ev_callV (ea_cons (ev_var rfl) (ea_cons (ev_is (d2 := .int 1014) (by walk_at "ev") (by rfl)) ea_nil)) rfl ⟨_, _, rfl, hx, by rw [hI]⟩))) fun _ => et_is (by walk_at "et") (by rw [lm])) (by rfl)) (fun hc => x_raise ?_) fun hc => x_next ?_)
    · have hc := of_decide_eq_true hc
      rw [show isPk l = false by unfold isPk; rw [decide_eq_false (by omega), Bool.false_and]]
      rfl
    have h14 : 14 ≤ l.length := by have := of_decide_eq_false hc; omega
    have ix : ∀ i : Nat, i < 14 → atI (l.map D.int) (i : Int) = some (.int (l.getD i 0)) := fun i hi => atI_ints (by omega) (by omega)
    have w10 : ∀ e, Ev K (tCall (SpG K (PV p_of_two)) [] E0 (tCons (tVar 0) (tCons (tC (.int 10)) tNil))) (.val (.tup (l.map D.int)) :: e) (.val (.int (wAt l 10))) (.val (.tup (l.map D.int)) :: e) := fun e => ev_callV (by walk_at "ea") rfl ⟨l, 10, rfl, by omega, hb, rfl⟩
    have w12 : ∀ e, Ev K (tCall (SpG K (PV p_of_two)) [] E0 (tCons (tVar 0) (tCons (tC (.int 12)) tNil))) (.val (.tup (l.map D.int)) :: e) (.val (.int (wAt l 12))) (.val (.tup (l.map D.int)) :: e) := fun e => ev_callV (by walk_at "ea") rfl ⟨l, 12, rfl, by omega, hb, rfl⟩
    have d14 : decide (14 ≤ l.length) = true := decide_eq_true h14
    have p8 := hb _ (getD_in (d := 0) (show 8 < l.length by omega))
    refine x_seq (x_if (c := decide (1 < l.getD 8 0) || (!decide (l.getD 9 0 = 0) || !decide (wAt l 10 = (l.length : Int) - 14))) (e1 := [.val (.tup (l.map D.int)), .any, .any]) (et_or (et_b (ev_o (ev_o (ev_var rfl) (by walk_at "ev") (oe_ixt (ix 8 (by decide)))) (by walk_at "ev") oe_gt)) fun _ => et_or (et_b (ev_o (ev_o (ev_var rfl) (by walk_at "ev") (oe_ixt (ix 9 (by decide)))) (by walk_at "ev") oe_nei)) fun _ => et_is (et_b (ev_o (w10 _) (by walk_at "ev") oe_nei)) (by rw [lm])) (fun hc => x_raise ?_) fun hc => x_next ?_)
    · rw [show isPk l = false by
        unfold isPk
        rw [d14, Bool.true_and]
        by_cases a : l.getD 8 0 ≤ 1
        · rw [decide_eq_false (show ¬ 1 < l.getD 8 0 by omega), Bool.false_or] at hc
          by_cases b : l.getD 9 0 = 0
          · rw [decide_eq_true b] at hc
            by_cases e : wAt l 10 = (l.length : Int) - 14
            · rw [decide_eq_true e] at hc; cases hc
            · rw [decide_eq_false e, Bool.false_and, Bool.and_false, Bool.and_false]
          · rw [decide_eq_false b, Bool.false_and, Bool.and_false]
        · rw [decide_eq_false a, Bool.false_and]]
      rfl
    have c3 : l.getD 8 0 ≤ 1 ∧ l.getD 9 0 = 0 ∧ wAt l 10 = (l.length : Int) - 14 := by
      rw [Bool.or_eq_false_iff, Bool.or_eq_false_iff, Bool.not_eq_false', Bool.not_eq_false'] at hc
      have h1 := of_decide_eq_false hc.1
      exact ⟨by omega, of_decide_eq_true hc.2.1, of_decide_eq_true hc.2.2⟩
    obtain ⟨c8, c9, c10⟩ := c3
    refine x_seq (x_if (c := !decide (wAt l 12 = sumF l)) (e1 := [.val (.tup (l.map D.int)), .any, .any]) (et_b (ev_o (w12 _) (ev_callV (by walk_at "ea") rfl ⟨_, rfl, by omega, hb, rfl⟩) oe_nei)) (fun hc => x_raise ?_) fun hc => x_next ?_)
    · rw [Bool.not_eq_true'] at hc
      rw [show isPk l = false by
        unfold isPk
        rw [d14, decide_eq_true c8, decide_eq_true c9, decide_eq_true c10, hc]; rfl]
      rfl
    rw [Bool.not_eq_false', decide_eq_true_eq] at hc
    have hpk : isPk l = decide (wAt l 6 + (l.length : Int) - 14 ≤ 1000) := by
      unfold isPk
      rw [d14, decide_eq_true c8, decide_eq_true c9, decide_eq_true c10, decide_eq_true hc]; rfl
    refine x_seq (x_par (d1 := .int (wAt l 4)) (d2 := .int (wAt l 6)) (e1 := [.val (.tup (l.map D.int)), .any, .any]) (ea_cons (ev_callV (by walk_at "ea") rfl ⟨l, 4, rfl, by omega, hb, rfl⟩) (ea_cons (ev_callV (by walk_at "ea") rfl ⟨l, 6, rfl, by omega, hb, rfl⟩) ea_nil)) ?_)
    show Exec K [] _ _ [.val (.tup (l.map D.int)), .val (.int (wAt l 4)), .val (.int (wAt l 6))] _ _ _ _
    have okl : okL (pkOf l).args := ⟨_, _, _, _, _, _, _, _, rfl, rfl, rfl, rfl, rfl, rfl, rfl, rfl, okT_ints (by show (l.drop 14).length ≤ _; rw [List.length_drop]; omega)⟩
    by_cases hle : wAt l 6 + (l.length : Int) - 14 ≤ 1000
    · rw [decide_eq_true hle] at hpk
      rw [hpk]
      exact x_ret (d := pkO c (pkOf l)) (e1 := [.val (.tup (l.map D.int)), .val (.int (wAt l 4)), .val (.int (wAt l 6))]) (Ev.give (o := .obj c.Packet (pkOf l).fs) (en_makeS (ds := (pkOf l).args) (ea_cons (ev_o (r := .val (.int (l.getD 2 0))) (ev_var rfl) ev_int (oe_ixt (ix 2 (by decide)))) (ea_cons (ev_o (r := .val (.int (l.getD 3 0))) (ev_var rfl) ev_int (oe_ixt (ix 3 (by decide)))) (ea_cons (ev_o (r := .val (.int (l.getD 0 0))) (ev_var rfl) ev_int (oe_ixt (ix 0 (by decide)))) (ea_cons (ev_o (r := .val (.int (l.getD 1 0))) (ev_var rfl) ev_int (oe_ixt (ix 1 (by decide)))) (ea_cons (ev_var rfl) (ea_cons (ev_var rfl) (ea_cons (ev_o (ev_o (ev_var rfl) ev_int (oe_ixt (ix 8 (by decide)))) ev_int oe_eqi) (ea_cons (ev_is (d2 := .tup ((l.drop 14).map D.int)) (ev_slt (ev_var rfl) (by walk_at "eo") eo_none (by rfl)) (by rw [cut_from (by decide), List.map_drop]; rfl)) ea_nil)))))))) rfl ⟨rfl, okl, .inl ⟨pkOf l, rfl, pkOf_ok hb hpk, rfl, rfl⟩⟩)) rfl
    · rw [decide_eq_false hle] at hpk
      rw [hpk]
      have hbad : goodL (pkOf l).args = false := by
        show goodL [.int (l.getD 2 0), .int (l.getD 3 0), .int (l.getD 0 0), .int (l.getD 1 0), .int (wAt l 4), .int (wAt l 6), .bl (decide (l.getD 8 0 = 1)), .tup ((l.drop 14).map D.int)] = false
        rw [goodL_eq, show isRowI (1000 - intOf (.int (wAt l 6))) (.tup ((l.drop 14).map D.int)) = false by
          show (decide _ && _) = false
          rw [decide_eq_false (by rw [List.length_map, List.length_drop]; show ¬ ((l.length - 14 : Nat) : Int) ≤ 1000 - wAt l 6; omega), Bool.false_and], Bool.and_false, Bool.and_false]
      exact x_retX (e1 := [.val (.tup (l.map D.int)), .val (.int (wAt l 4)), .val (.int (wAt l 6))]) (ex_makeS (ds := (pkOf l).args) (Ce := c.NoPacket) (ea_cons (ev_o (r := .val (.int (l.getD 2 0))) (ev_var rfl) ev_int (oe_ixt (ix 2 (by decide)))) (ea_cons (ev_o (r := .val (.int (l.getD 3 0))) (ev_var rfl) ev_int (oe_ixt (ix 3 (by decide)))) (ea_cons (ev_o (r := .val (.int (l.getD 0 0))) (ev_var rfl) ev_int (oe_ixt (ix 0 (by decide)))) (ea_cons (ev_o (r := .val (.int (l.getD 1 0))) (ev_var rfl) ev_int (oe_ixt (ix 1 (by decide)))) (ea_cons (ev_var rfl) (ea_cons (ev_var rfl) (ea_cons (ev_o (ev_o (ev_var rfl) ev_int (oe_ixt (ix 8 (by decide)))) ev_int oe_eqi) (ea_cons (ev_is (d2 := .tup ((l.drop 14).map D.int)) (ev_slt (ev_var rfl) (by walk_at "eo") eo_none (by rfl)) (by rw [cut_from (by decide), List.map_drop]; rfl)) ea_nil)))))))) rfl ⟨rfl, okl, .inr ⟨hbad, rfl, rfl⟩⟩) rfl

abbrev s_l_cell_at : Stmt := topS 33
abbrev N_l_cell_at : List Str := ["_law_script", "_law_k"]
theorem sc_l_cell_at : FnScope N_l_cell_at ["_law_script", "_law_k"] (defScope s_l_cell_at) := ⟨rfl, rfl, rfl, by decide +kernel, rfl, by decide +kernel, by decide +kernel⟩

theorem ok_l_cell_at {P : Program} {w : World} {K : PySem.W.Frag} {mg : Str → Option Value} {base : Heap} {a : Addr} {fd : FuncData} {c : Cad} (T : Txt c K mg) (F : Fun K "_law_cell_at" "_law_cell_at" s_l_cell_at a fd)  :
    FnOk P w K mg base CX0 1 a fd ["_law_script", "_law_k"] (SpG K (PV (p_cell_at))) := by
  refine Fn.ofV F sc_l_cell_at (fun ds d ⟨_, _, h, _⟩ => by rw [h]; rfl) fun cdv A outer s H E hr => ?_
  have nd := sc_l_cell_at.nd
  refine ⟨_, (pss_cons (ps_if (pt_cmpR op_ltU (pv 1) (pe_callB (call_lenU (K := K)) (by rfl) T.b_len (by decide +kernel) (pa_cons (pv 0) pa_nil)) (nomark _)) (pss_one (ps_ret (pe_ix (ix_U (K := K)) (pv 0) (pv 1) (fun _ _ => rfl)))) pss_nil) (pss_one (ps_ret pe_int))), ?_⟩
  try dsimp only [L2.cxOf, L2.Cx.nox, L2.Cx.wish]

  intro ds d h
  obtain ⟨ns, k, rfl, hl, rfl⟩ := h
  show Exec K [] _ _ [.val (.scr (ns.map D.int)), .val (.int k)] _ _ _ _
  refine x_seq ?_
  refine' x_if ?k1 ?k2 ?k3
  case k1 => walk_at "et"
  · intro hc
    simp at hc
    refine x_ret (e1 := [.val (.scr (ns.map D.int)), .val (.int k)]) (d := .int (cellAt ns k)) ?_ rfl
    refine ev_o (ev_var rfl) (ev_var rfl) (oe_ixl (.inr rfl) ?_)
    exact atI_ints (by omega) (by omega)
  · intro hc
    simp at hc
    refine x_next (x_ret ev_int ?_)
    have : ns.getD k.toNat 0 = 0 := by rw [List.getD_eq_getElem?_getD, List.getElem?_eq_none (by omega)]; rfl
    unfold cellAt
    rw [this]

abbrev s_l_mixed : Stmt := topS 34
abbrev N_l_mixed : List Str := ["_law_cell", "_law_k", "_law_number"]
theorem sc_l_mixed : FnScope N_l_mixed ["_law_cell", "_law_k"] (defScope s_l_mixed) := ⟨rfl, rfl, rfl, by decide +kernel, rfl, by decide +kernel, by decide +kernel⟩

theorem ok_l_mixed {P : Program} {w : World} {K : PySem.W.Frag} {mg : Str → Option Value} {base : Heap} {a : Addr} {fd : FuncData} {c : Cad} (T : Txt c K mg) (F : Fun K "_law_mixed" "_law_mixed" s_l_mixed a fd)  :
    FnOk P w K mg base CX0 1 a fd ["_law_cell", "_law_k"] (SpG K (PV (p_mixed))) := by
  refine Fn.ofV F sc_l_mixed (fun ds d ⟨_, _, h, _⟩ => by rw [h]; rfl) fun cdv A outer s H E hr => ?_
  have nd := sc_l_mixed.nd
  refine ⟨_, (pss_cons (ps_set (i := 2) nd rfl (by first | exact Or.inl rfl | exact Or.inr rfl) (pe_op op_modU (pe_op (op_mulA (K := K)) (pe_op (op_addU (K := K)) (pe_op (op_addU (K := K)) (pv 0) (pe_op (op_mulA (K := K)) pe_int (pv 1))) pe_int) pe_int) pe_int)) (pss_cons (ps_set (i := 2) nd rfl (by first | exact Or.inl rfl | exact Or.inr rfl) (pe_op op_modU (pe_op (op_addU (K := K)) (pe_op (op_addU (K := K)) (pe_op (op_mulA (K := K)) (pv 2) (pv 2)) (pe_op (op_mulA (K := K)) pe_int (pv 2))) (pv 1)) pe_int)) (pss_one (ps_ret (pe_op op_divU (pe_op op_modU (pe_op (op_addU (K := K)) (pe_op (op_mulA (K := K)) (pv 2) (pv 2)) (pe_op (op_mulA (K := K)) pe_int (pv 2))) pe_int) pe_int))))), ?_⟩
  try dsimp only [L2.cxOf, L2.Cx.nox, L2.Cx.wish]

  intro ds d h
  obtain ⟨c, k, rfl, rfl⟩ := h
  show Exec K [] _ _ [.val (.int c), .val (.int k), .any] _ _ _ _
  refine x_seq (x_set (d := .int (mix1 c k)) (ev_is (by walk_at "ev") (by rfl)) ?_)
  have b1 : 0 ≤ mix1 c k ∧ mix1 c k < 2147483647 := by unfold mix1; omega
  show Exec K [] _ _ [.val (.int c), .val (.int k), .val (.int (mix1 c k))] _ _ _ _
  unfold mixed
  generalize mix1 c k = n1 at b1 ⊢
  refine x_seq (x_set (d := .int (mix2 n1 k)) (ev_is (by walk_at "ev") (by rfl)) ?_)
  have b2 : 0 ≤ mix2 n1 k ∧ mix2 n1 k < 2147483629 := by unfold mix2; omega
  show Exec K [] _ _ [.val (.int c), .val (.int k), .val (.int (mix2 n1 k))] _ _ _ _
  generalize mix2 n1 k = n2 at b2 ⊢
  exact x_ret (d := .int (mix3 n2)) (ev_is (by walk_at "ev") (by rfl)) rfl

abbrev s_l_row : Stmt := topS 35
abbrev N_l_row : List Str := ["_law_cell", "_law_by_digits", "_law_size", "_law_many", "_law_found_here", "_law_left", "_law_k"]
theorem sc_l_row : FnScope N_l_row ["_law_cell", "_law_by_digits", "_law_size", "_law_many"] (defScope s_l_row) := ⟨rfl, rfl, rfl, by decide +kernel, rfl, by decide +kernel, by decide +kernel⟩

theorem ok_l_row {P : Program} {w : World} {K : PySem.W.Frag} {mg : Str → Option Value} {base : Heap} {a : Addr} {fd : FuncData} {c : Cad} (T : Txt c K mg) (F : Fun K "_law_row" "_law_row" s_l_row a fd) (C_l_mixed : Df P w K mg base 1 "_law_mixed" (SpG K (PV (p_mixed)))) :
    FnOk P w K mg base CX0 2 a fd ["_law_cell", "_law_by_digits", "_law_size", "_law_many"] (SpG K (PN (p_row))) := by
  refine Fn.ofN F sc_l_row (fun ds d ⟨_, _, _, _, h, _⟩ => by rw [h]; rfl) fun cdv A outer s H E hr => ?_
  have nd := sc_l_row.nd
  refine ⟨_, (pss_cons (ps_set (i := 4) nd rfl (by first | exact Or.inl rfl | exact Or.inr rfl) (pe_lst pa_nil)) (pss_cons (ps_set (i := 5) nd rfl (by first | exact Or.inl rfl | exact Or.inr rfl) (pv 0)) (pss_cons (ps_for PassesOwn.never rfl (pi_range1 rfl T.b_range (pa_cons (pv 3) pa_nil)) (pg_name (i := 6) nd rfl (by first | exact Or.inl rfl | exact Or.inr rfl)) (pss_one (ps_if (PW.pt (pw_and (pt_val (pv 1)) (pw_and1 (pt_cmpR op_gtU (pe_callB call_absU (by rfl) T.b_abs (by decide +kernel) (pa_cons (pv 5) pa_nil)) pe_int (nomark _))))) (pss_cons (ps_expr (pe_bm PySem.F.plainAttrs_list PySem.F.slot_list_append PySem.F.type_list_append mt_append (pv 4) (pa_cons (pe_op op_modU (pv 5) (pv 2)) pa_nil))) (pss_one (ps_set (i := 5) nd rfl (by first | exact Or.inl rfl | exact Or.inr rfl) (pe_op op_divU (pv 5) (pv 2))))) (pss_one (ps_expr (pe_bm PySem.F.plainAttrs_list PySem.F.slot_list_append PySem.F.type_list_append mt_append (pv 4) (pa_cons (pe_op op_modU (pe_df C_l_mixed hr (by decide) rfl (pa_cons (pv 0) (pa_cons (pv 6) pa_nil))) (pv 2)) pa_nil))))))) (pss_one (ps_ret (pv 4)))))), ?_⟩
  try dsimp only [L2.cxOf, L2.Cx.nox, L2.Cx.wish]

  intro ds o h
  obtain ⟨c, b, s, m, rfl, h1, h2, h3, h4, rfl⟩ := h
  show Exec K [] _ _ [.val (.int c), .val (.bl b), .val (.int s), .val (.int m), .any, .any, .any] _ _ _ _
  have hs : s.natAbs.log2 < 9000 := (log2_lt (k := 33) h1 (by omega) (by omega)).2
  refine x_seq (x_setN (by walk_at "en") (by simp) ?_)
  show Exec K [] _ _ [.val (.int c), .val (.bl b), .val (.int s), .val (.int m), .own (.lst []), .any, .any] _ _ _ _
  refine x_seq (x_set (d := .int c) (by walk_at "ev") ?_)
  show Exec K [] _ _ [.val (.int c), .val (.bl b), .val (.int s), .val (.int m), .own (.lst []), .val (.int c), .any] _ _ _ _
  refine x_seq ?_
  refine x_forN (fun i e => ∃ v, e = [.val (.int c), .val (.bl b), .val (.int s), .val (.int m), .own (.lst ((rowAt c b s i).2.map D.int)), .val (.int (rowAt c b s i).1), v]) (ei_r1 (by walk_at "ev") (by omega) (by omega)) ⟨_, rfl⟩ ?_ ?_
  · rintro i d e hd ⟨v, rfl⟩
    obtain ⟨rfl, hi⟩ := rng_get hd
    rw [Int.zero_add]
    have hlen := rowAt_len (c := c) (b := b) (s := s) i
    generalize hp : rowAt c b s i = p at hlen ⊢
    obtain ⟨lf, f⟩ := p
    show Exec K [] _ _ [.val (.int c), .val (.bl b), .val (.int s), .val (.int m), .own (.lst (f.map D.int)), .val (.int lf), .val (.int i)] _ _ _ _
    have hz : (f.map D.int).length < sizeLine := by
      rw [List.length_map]
      have : f.length = i := hlen
      exact Nat.lt_of_lt_of_le (show f.length < 5000 by omega) (by decide)
    refine' x_if ?k1 ?k2 ?k3
    case k1 => walk_at "et"
    · intro hc
      refine x_seq (x_app rfl (e1 := [.val (.int c), .val (.bl b), .val (.int s), .val (.int m), .own (.lst (f.map D.int)), .val (.int lf), .val (.int i)]) (by walk_at "ev") rfl hz ?_)
      refine x_set (d := .int (lf / s)) (by walk_at "ev") ?_
      refine ⟨.val (.int i), ?_⟩
      have e : rowAt c b s (i + 1) = (lf / s, f ++ [lf % s]) := by
        show (if _ then _ else _) = _
        rw [hp, if_pos hc]
      rw [e, List.map_append]
      rfl
    · intro hc
      refine x_app rfl (e1 := [.val (.int c), .val (.bl b), .val (.int s), .val (.int m), .own (.lst (f.map D.int)), .val (.int lf), .val (.int i)]) (d := .int (mixed c i % s)) (ev_o (ev_callV (by walk_at "ea") rfl ⟨_, _, rfl, rfl⟩) (by walk_at "ev") (oe_mod h1)) rfl hz ?_
      refine ⟨.val (.int i), ?_⟩
      have e : rowAt c b s (i + 1) = (lf, f ++ [mixed c i % s]) := by
        show (if _ then _ else _) = _
        rw [hp, if_neg (by rw [hc]; decide)]
      rw [e, List.map_append]
      rfl
  · rintro e ⟨v, rfl⟩
    rw [rng_len]
    exact x_retO rfl (by simp) rfl (by simp)

abbrev s_l_class : Stmt := topS 36
abbrev N_l_class : List Str := ["_law_e", "_law_some"]
theorem sc_l_class : FnScope N_l_class ["_law_e"] (defScope s_l_class) := ⟨rfl, rfl, rfl, by decide +kernel, rfl, by decide +kernel, by decide +kernel⟩

theorem ok_l_class {P : Program} {w : World} {K : PySem.W.Frag} {mg : Str → Option Value} {base : Heap} {a : Addr} {fd : FuncData} {c : Cad} (T : Txt c K mg) (F : Fun K "_law_class" "_law_class" s_l_class a fd)  :
    FnOk P w K mg base CX0 1 a fd ["_law_e"] (SpG K (PV (p_class c))) := by
  refine Fn.ofV F sc_l_class (fun ds d ⟨_, h, _⟩ => by rw [h]; rfl) fun cdv A outer s H E hr => ?_
  have nd := sc_l_class.nd
  refine ⟨_, (pss_cons (ps_set (i := 1) nd rfl (by first | exact Or.inl rfl | exact Or.inr rfl) (pe_lst (pa_cons (pe_callB (call_isiA (K := K)) (by rfl) T.b_isinstance (by decide +kernel) (pa_cons (pv 0) (pa_cons (pe_glob (v := .ref c.NoBits) rfl T.g_NoBits rfl) pa_nil))) (pa_cons (pe_callB (call_isiA (K := K)) (by rfl) T.b_isinstance (by decide +kernel) (pa_cons (pv 0) (pa_cons (pe_glob (v := .ref c.NoData) rfl T.g_NoData rfl) pa_nil))) (pa_cons (pe_callB (call_isiA (K := K)) (by rfl) T.b_isinstance (by decide +kernel) (pa_cons (pv 0) (pa_cons (pe_glob (v := .ref c.NoNumber) rfl T.g_NoNumber rfl) pa_nil))) (pa_cons (pe_callB (call_isiA (K := K)) (by rfl) T.b_isinstance (by decide +kernel) (pa_cons (pv 0) (pa_cons (pe_glob (v := .ref c.NoSize) rfl T.g_NoSize rfl) pa_nil))) pa_nil)))))) (pss_cons (ps_set (i := 1) nd rfl (by first | exact Or.inl rfl | exact Or.inr rfl) (pe_op (op_addU (K := K)) (pv 1) (pe_lst (pa_cons (pe_callB (call_isiA (K := K)) (by rfl) T.b_isinstance (by decide +kernel) (pa_cons (pv 0) (pa_cons (pe_glob (v := .ref c.NoPacket) rfl T.g_NoPacket rfl) pa_nil))) (pa_cons (pe_callB (call_isiA (K := K)) (by rfl) T.b_isinstance (by decide +kernel) (pa_cons (pv 0) (pa_cons (pe_glob (v := .ref c.NoCode) rfl T.g_NoCode rfl) pa_nil))) (pa_cons (pe_callB (call_isiA (K := K)) (by rfl) T.b_isinstance (by decide +kernel) (pa_cons (pv 0) (pa_cons (pe_glob (v := .ref c.NoTable) rfl T.g_NoTable rfl) pa_nil))) (pa_cons (pe_callB (call_isiA (K := K)) (by rfl) T.b_isinstance (by decide +kernel) (pa_cons (pv 0) (pa_cons (pe_glob (v := .ref c.NoPlace) rfl T.g_NoPlace rfl) pa_nil))) pa_nil))))))) (pss_cons (ps_set (i := 1) nd rfl (by first | exact Or.inl rfl | exact Or.inr rfl) (pe_op (op_addU (K := K)) (pv 1) (pe_lst (pa_cons (pe_callB (call_isiA (K := K)) (by rfl) T.b_isinstance (by decide +kernel) (pa_cons (pv 0) (pa_cons (pe_glob (v := .ref c.NoSegment) rfl T.g_NoSegment rfl) pa_nil))) (pa_cons (pe_callB (call_isiA (K := K)) (by rfl) T.b_isinstance (by decide +kernel) (pa_cons (pv 0) (pa_cons (pe_glob (v := .ref c.NoTick) rfl T.g_NoTick rfl) pa_nil))) (pa_cons (pe_callB (call_isiA (K := K)) (by rfl) T.b_isinstance (by decide +kernel) (pa_cons (pv 0) (pa_cons (pe_glob (v := .ref c.NoTalk) rfl T.g_NoTalk rfl) pa_nil))) (pa_cons (pe_callB (call_isiA (K := K)) (by rfl) T.b_isinstance (by decide +kernel) (pa_cons (pv 0) (pa_cons (pe_glob (v := .ref c.NoPort) rfl T.g_NoPort rfl) pa_nil))) pa_nil))))))) (pss_cons (ps_set (i := 1) nd rfl (by first | exact Or.inl rfl | exact Or.inr rfl) (pe_op (op_addU (K := K)) (pv 1) (pe_lst (pa_cons (pe_callB (call_isiA (K := K)) (by rfl) T.b_isinstance (by decide +kernel) (pa_cons (pv 0) (pa_cons (pe_glob (v := .ref c.NoDeed) rfl T.g_NoDeed rfl) pa_nil))) (pa_cons (pe_callB (call_isiA (K := K)) (by rfl) T.b_isinstance (by decide +kernel) (pa_cons (pv 0) (pa_cons (pe_glob (v := .ref c.NoBook) rfl T.g_NoBook rfl) pa_nil))) (pa_cons (pe_callB (call_isiA (K := K)) (by rfl) T.b_isinstance (by decide +kernel) (pa_cons (pv 0) (pa_cons (pe_glob (v := .ref c.NoText) rfl T.g_NoText rfl) pa_nil))) pa_nil)))))) (pss_cons (ps_if (PW.pt (pw_or (pt_cmpR (op_neU (K := K) hr.units) (pe_bm PySem.F.plainAttrs_list PySem.F.slot_list_count PySem.F.type_list_count mt_cntF (pv 1) (pa_cons pe_bl pa_nil)) pe_int (nomark _)) (pw_or1 (pt_not (pt_val (pe_callB (call_isiA (K := K)) (by rfl) T.b_isinstance (by decide +kernel) (pa_cons (pv 0) (pa_cons (pe_bltn (v := .ty "ValueError") (by rfl) T.b_ValueError (by decide +kernel) rfl) pa_nil)))))))) (pss_one (ps_ret pe_str)) pss_nil) (pss_one (ps_ret (pe_ifExp (pt_cmpR op_ltU (pe_bm PySem.F.plainAttrs_list PySem.F.slot_list_index PySem.F.type_list_index mt_index (pv 1) (pa_cons pe_bl pa_nil)) pe_int (nomark _)) (pe_ix (ix_U (K := K)) (pe_lst (pa_cons pe_str (pa_cons pe_str (pa_cons pe_str (pa_cons pe_str (pa_cons pe_str pa_nil)))))) (pe_bm PySem.F.plainAttrs_list PySem.F.slot_list_index PySem.F.type_list_index mt_index (pv 1) (pa_cons pe_bl pa_nil)) (fun _ _ => rfl)) pe_str)))))))), ?_⟩
  try dsimp only [L2.cxOf, L2.Cx.nox, L2.Cx.wish]
  intro ds d h
  obtain ⟨e, rfl, rfl⟩ := h
  cases e with
  | packet =>
    show Exec K [] _ _ [.val (.exc c.NoPacket), .any] _ _ _ _
    have hx := T.x_NoPacket
    have hv := T.v_NoPacket
    have h0 := T.i_NoPacket_NoBits
    have h1 := T.i_NoPacket_NoData
    have h2 := T.i_NoPacket_NoNumber
    have h3 := T.i_NoPacket_NoSize
    have h4 := T.i_NoPacket_NoPacket
    have h5 := T.i_NoPacket_NoCode
    have h6 := T.i_NoPacket_NoTable
    have h7 := T.i_NoPacket_NoPlace
    have h8 := T.i_NoPacket_NoSegment
    have h9 := T.i_NoPacket_NoTick
    have h10 := T.i_NoPacket_NoTalk
    have h11 := T.i_NoPacket_NoPort
    have h12 := T.i_NoPacket_NoDeed
    have h13 := T.i_NoPacket_NoBook
    have h14 := T.i_NoPacket_NoText
    refine x_seq (x_setN (o := .lst [.bl false, .bl false, .bl false, .bl false]) (en_is (by walk_at "en") (by rfl)) (by simp) ?_)
    show Exec K [] _ _ [.val (.exc c.NoPacket), .own (.lst [.bl false, .bl false, .bl false, .bl false])] _ _ _ _
    refine x_seq (x_setN (o := .lst [.bl false, .bl false, .bl false, .bl false, .bl true, .bl false, .bl false, .bl false]) (en_is (by walk_at "en") (by rfl)) (by simp) ?_)
    show Exec K [] _ _ [.val (.exc c.NoPacket), .own (.lst [.bl false, .bl false, .bl false, .bl false, .bl true, .bl false, .bl false, .bl false])] _ _ _ _
    refine x_seq (x_setN (o := .lst [.bl false, .bl false, .bl false, .bl false, .bl true, .bl false, .bl false, .bl false, .bl false, .bl false, .bl false, .bl false]) (en_is (by walk_at "en") (by rfl)) (by simp) ?_)
    show Exec K [] _ _ [.val (.exc c.NoPacket), .own (.lst [.bl false, .bl false, .bl false, .bl false, .bl true, .bl false, .bl false, .bl false, .bl false, .bl false, .bl false, .bl false])] _ _ _ _
    refine x_seq (x_setN (o := .lst [.bl false, .bl false, .bl false, .bl false, .bl true, .bl false, .bl false, .bl false, .bl false, .bl false, .bl false, .bl false, .bl false, .bl false, .bl false]) (en_is (by walk_at "en") (by rfl)) (by simp) ?_)
    show Exec K [] _ _ [.val (.exc c.NoPacket), .own (.lst [.bl false, .bl false, .bl false, .bl false, .bl true, .bl false, .bl false, .bl false, .bl false, .bl false, .bl false, .bl false, .bl false, .bl false, .bl false])] _ _ _ _
    refine x_seq (x_if (c := false) (et_is (et_or (c1 := false) (c2 := !true) (et_is (et_b (ev_o (ev_m (ev_own rfl) (by walk_at "ea") (me_cnt (bs := [false, false, false, false, true, false, false, false, false, false, false, false, false, false, false]) (.inl ⟨_, rfl, rfl⟩) (.inl ⟨_, rfl, rfl⟩))) ev_int oe_nei)) (by rfl)) fun _ => by walk_at "et") (by rfl)) (fun h => by cases h) fun _ => x_next ?_)
    exact x_ret (ev_is (ev_if (c := true) (et_is (et_b (ev_o (ev_m (ev_own rfl) (by walk_at "ea") (me_idx (bs := [false, false, false, false, true, false, false, false, false, false, false, false, false, false, false]) (j := 4) (.inl ⟨_, rfl, rfl⟩) (.inl ⟨_, rfl, rfl⟩) rfl (by decide))) ev_int oe_lt)) (by rfl)) (fun _ => ev_o (by walk_at "ev") (ev_m (ev_own rfl) (by walk_at "ea") (me_idx (bs := [false, false, false, false, true, false, false, false, false, false, false, false, false, false, false]) (j := 4) (.inl ⟨_, rfl, rfl⟩) (.inl ⟨_, rfl, rfl⟩) rfl (by decide))) (oe_ixl (.inl (by rfl)) (by exact atI_nat rfl))) fun h => by cases h) (by rfl)) rfl

abbrev s_l_fields : Stmt := topS 37
abbrev N_l_fields : List Str := ["_law_cell", "_law_control", "_law_more", "_law_by_digits", "_law_row_here", "_law_edge", "_law_k", "_law_name", "_law_first", "_law_many", "_law_data"]
theorem sc_l_fields : FnScope N_l_fields ["_law_cell", "_law_control", "_law_more"] (defScope s_l_fields) := ⟨rfl, rfl, rfl, by decide +kernel, rfl, by decide +kernel, by decide +kernel⟩

theorem ok_l_fields {P : Program} {w : World} {K : PySem.W.Frag} {mg : Str → Option Value} {base : Heap} {a : Addr} {fd : FuncData} {c : Cad} (T : Txt c K mg) (F : Fun K "_law_fields" "_law_fields" s_l_fields a fd) (C_l_row : Df P w K mg base 2 "_law_row" (SpG K (PN (p_row)))) :
    FnOk P w K mg base CX0 3 a fd ["_law_cell", "_law_control", "_law_more"] (SpG K (PV (p_fields3))) := by
  refine Fn.ofV F sc_l_fields (fun ds d ⟨_, _, _, h, _⟩ => by rw [h]; rfl) fun cdv A outer s H E hr => ?_
  have nd := sc_l_fields.nd
  refine ⟨_, (pss_cons (ps_set (i := 3) nd rfl (by first | exact Or.inl rfl | exact Or.inr rfl) (pe_cmpR (op_eqU (K := K) hr.units) (pe_op op_modU (pv 1) pe_int) pe_int (nomark _))) (pss_cons (ps_set (i := 4) nd rfl (by first | exact Or.inl rfl | exact Or.inr rfl) (pe_df C_l_row hr (by decide) rfl (pa_cons (pv 0) (pa_cons (pv 3) (pa_cons pe_int (pa_cons pe_int pa_nil)))))) (pss_cons (ps_set (i := 5) nd rfl (by first | exact Or.inl rfl | exact Or.inr rfl) (pe_op op_modU (pe_op op_divU (pv 1) pe_int) pe_int)) (pss_cons (ps_if (pt_cmpR (op_eqU (K := K) hr.units) (pv 5) pe_int (nomark _)) (pss_one (ps_setLc (i := 4) (own := [("_law_k", 6)]) (g := (gName 6)) rfl nd rfl rfl (sw_true rfl rfl rfl (by decide +kernel)) (pi_range1 rfl T.b_range (pa_cons pe_int pa_nil)) (blkOk_by (own := [("_law_k", 6)]) (N := N_l_fields) (sc := defScope s_l_fields) (by decide +kernel)) (fun _ _ _ _ _ => (pg_name (i := 6) nd rfl (by first | exact Or.inl rfl | exact Or.inr rfl))) (fun _ _ _ _ _ => pts_nil) (fun _ _ _ _ _ => (pe_ix (ix_U (K := K)) (pe_lst (pa_cons pe_int (pa_cons pe_int pa_nil))) (pe_op op_modU (pe_op op_divU (pv 2) (pe_op op_shlU pe_int (pv 6))) pe_int) (fun _ _ => rfl))))) pss_nil) (pss_cons (ps_set (i := 7) nd rfl (by first | exact Or.inl rfl | exact Or.inr rfl) (pe_op (op_addU (K := K)) (pe_op (op_mulA (K := K)) (pe_ix (ix_U (K := K)) (pv 4) pe_int (fun _ _ => rfl)) pe_int) (pe_ix (ix_U (K := K)) (pv 4) pe_int (fun _ _ => rfl)))) (pss_cons (ps_set (i := 8) nd rfl (by first | exact Or.inl rfl | exact Or.inr rfl) (pe_op op_modU (pe_ix (ix_U (K := K)) (pe_lst (pa_cons (pe_op (op_addU (K := K)) (pe_op (op_mulA (K := K)) (pe_ix (ix_U (K := K)) (pv 4) pe_int (fun _ _ => rfl)) pe_int) (pe_ix (ix_U (K := K)) (pv 4) pe_int (fun _ _ => rfl))) (pa_cons pe_int (pa_cons pe_int (pa_cons (pe_op (op_mulA (K := K)) pe_int (pe_ix (ix_U (K := K)) (pv 4) pe_int (fun _ _ => rfl))) (pa_cons (pe_ix (ix_U (K := K)) (pv 4) pe_int (fun _ _ => rfl)) pa_nil)))))) (pe_op op_modU (pe_op op_divU (pv 1) pe_int) pe_int) (fun _ _ => rfl)) pe_int)) (pss_cons (ps_set (i := 9) nd rfl (by first | exact Or.inl rfl | exact Or.inr rfl) (pe_callB (call_min2U rfl) (by rfl) T.b_min (by decide +kernel) (pa_cons (pe_ix (ix_U (K := K)) (pe_lst (pa_cons (pe_op op_modU (pe_op op_divU (pv 1) pe_int) pe_int) (pa_cons pe_int (pa_cons pe_int (pa_cons pe_int pa_nil))))) (pe_op (op_mulA (K := K)) (pe_op op_modU (pe_op op_divU (pv 1) pe_int) pe_int) (pe_callTy call_intU (by rfl) T.b_int (by decide +kernel) (pa_cons (pe_cmpR (op_eqU (K := K) hr.units) (pe_op op_modU (pe_op op_divU (pv 1) pe_int) pe_int) pe_int (nomark _)) pa_nil))) (fun _ _ => rfl)) (pa_cons (pe_op op_subU pe_int (pv 8)) pa_nil)))) (pss_cons (ps_set (i := 10) nd rfl (by first | exact Or.inl rfl | exact Or.inr rfl) (pe_callTy (call_tupleU (K := K)) (by rfl) T.b_tuple (by decide +kernel) (pa_cons (pe_df C_l_row hr (by decide) rfl (pa_cons (pv 2) (pa_cons (pv 3) (pa_cons pe_int (pa_cons (pe_callB (call_min2U rfl) (by rfl) T.b_min (by decide +kernel) (pa_cons (pv 9) (pa_cons pe_int pa_nil))) pa_nil))))) pa_nil))) (pss_cons (ps_if (pt_cmpR op_gtU (pv 9) pe_int (nomark _)) (pss_one (ps_set (i := 10) nd rfl (by first | exact Or.inl rfl | exact Or.inr rfl) (pe_slice (sl_U (K := K)) (pe_callTy (call_tupleU (K := K)) (by rfl) T.b_tuple (by decide +kernel) (pa_cons (pe_op (op_mulA (K := K)) (pe_lst (pa_cons (pe_op op_modU (pe_op op_divU (pv 2) pe_int) pe_int) (pa_cons (pe_op op_modU (pe_op (op_addU (K := K)) (pv 1) pe_int) pe_int) (pa_cons pe_int (pa_cons pe_int (pa_cons pe_int pa_nil)))))) pe_int) pa_nil)) po_none (po_some (pv 9))))) pss_nil) (pss_one (ps_ret (pe_tup (pa_cons (pe_ix (ix_U (K := K)) (pv 4) pe_int (fun _ _ => rfl)) (pa_cons (pe_ix (ix_U (K := K)) (pv 4) pe_int (fun _ _ => rfl)) (pa_cons (pe_ix (ix_U (K := K)) (pv 4) pe_int (fun _ _ => rfl)) (pa_cons (pe_ix (ix_U (K := K)) (pv 4) pe_int (fun _ _ => rfl)) (pa_cons (pv 7) (pa_cons (pv 8) (pa_cons (pe_cmpR (op_eqU (K := K) hr.units) (pe_op op_modU (pe_op op_divU (pv 1) pe_int) pe_int) pe_int (nomark _)) (pa_cons (pv 10) pa_nil)))))))))))))))))))), ?_⟩
  try dsimp only [L2.cxOf, L2.Cx.nox, L2.Cx.wish]

  intro ds d h
  obtain ⟨cc, k, m, rfl, rfl⟩ := h
  show Exec K [] _ _ [.val (.int cc), .val (.int k), .val (.int m), .any, .any, .any, .any, .any, .any, .any, .any] _ _ _ _
  refine x_seq (x_set (d := .bl (decide (k % 2 = 0))) (by walk_at "ev") ?_)
  show Exec K [] _ _ [.val (.int cc), .val (.int k), .val (.int m), .val (.bl (decide (k % 2 = 0))), .any, .any, .any, .any, .any, .any, .any] _ _ _ _
  refine x_seq (x_set (d := .lst ((rowF cc (decide (k % 2 = 0)) 256 8).map D.int)) (Ev.give (o := .lst ((rowF cc (decide (k % 2 = 0)) 256 8).map D.int)) (en_callV (by walk_at "ea") rfl ⟨_, _, _, _, rfl, by decide, by decide, by decide, by decide, rfl⟩)) ?_)
  show Exec K [] _ _ [.val (.int cc), .val (.int k), .val (.int m), .val (.bl (decide (k % 2 = 0))), .val (.lst ((rowF cc (decide (k % 2 = 0)) 256 8).map D.int)), .any, .any, .any, .any, .any, .any] _ _ _ _
  refine x_seq (x_set (d := .int (k / 2 % 5)) (by walk_at "ev") ?_)
  show Exec K [] _ _ [.val (.int cc), .val (.int k), .val (.int m), .val (.bl (decide (k % 2 = 0))), .val (.lst ((rowF cc (decide (k % 2 = 0)) 256 8).map D.int)), .val (.int (k / 2 % 5)), .any, .any, .any, .any, .any] _ _ _ _
  refine x_seq (x_cut (fun e => e = [.val (.int cc), .val (.int k), .val (.int m), .val (.bl (decide (k % 2 = 0))), .val (.lst ((row3 cc k m).map D.int)), .val (.int (k / 2 % 5)), .any, .any, .any, .any, .any]) (x_if (c := decide (k / 2 % 5 = 1)) (e1 := [.val (.int cc), .val (.int k), .val (.int m), .val (.bl (decide (k % 2 = 0))), .val (.lst ((rowF cc (decide (k % 2 = 0)) 256 8).map D.int)), .val (.int (k / 2 % 5)), .any, .any, .any, .any, .any]) (by walk_at "et") (fun hc => ?_) fun hc => x_next ?_) ?_)
  · have hc := of_decide_eq_true hc
    refine x_set (d := .lst ((edgeR m).map D.int)) (Ev.give (o := .lst ((edgeR m).map D.int)) (en_is (en_lc0r (lo := 0) (f := fun j => .int (edgeB m j)) (by walk_at "ei") (by walk_at "no") (sz_le (by decide)) fun j hj => ?_) (by unfold edgeR; rw [List.map_map]; rfl))) ?_
    · have hj : j < 8 := hj
      have h2 : (0 : Int) < 1 * 2 ^ (0 + (j : Nat) : Int).toNat ∧ (1 * 2 ^ (0 + (j : Nat) : Int).toNat : Int).natAbs.log2 < 9000 := by
        rcases (by omega : j = 0 ∨ j = 1 ∨ j = 2 ∨ j = 3 ∨ j = 4 ∨ j = 5 ∨ j = 6 ∨ j = 7) with q | q | q | q | q | q | q | q <;> subst q <;> decide +kernel
      have hm : 0 ≤ m / (1 * 2 ^ (0 + (j : Nat) : Int).toNat) % 2 ∧ m / (1 * 2 ^ (0 + (j : Nat) : Int).toNat) % 2 < 2 := by
        generalize m / (1 * 2 ^ (0 + (j : Nat) : Int).toNat) = y
        omega
      have hsh : CShl 1 (0 + (j : Nat) : Int) := ⟨by omega, by
        rcases (by omega : j = 0 ∨ j = 1 ∨ j = 2 ∨ j = 3 ∨ j = 4 ∨ j = 5 ∨ j = 6 ∨ j = 7) with q | q | q | q | q | q | q | q <;> subst q <;> decide +kernel⟩
      refine ev_is (ev_o (Ev.give (o := .lst (([0, 255] : List Int).map D.int)) (en_is (by walk_at "en") (by rfl))) (ev_o (ev_o (ev_var rfl) (ev_o ev_int (ev_var rfl) (oe_shl hsh)) (oe_div h2)) ev_int (oe_mod (by decide))) (oe_ixl (.inl (by rfl)) (atI_ints hm.1 (by show _ < (2 : Int); exact hm.2)))) ?_
      unfold edgeB
      rw [show (1 * 2 ^ (0 + (j : Nat) : Int).toNat : Int) = 2 ^ j by rw [Int.one_mul, show (0 + (j : Nat) : Int).toNat = j by omega]] at hm ⊢
      generalize m / 2 ^ j % 2 = y at hm ⊢
      rcases (by omega : y = 0 ∨ y = 1) with q | q <;> subst q <;> rfl
    · show _ = _
      unfold row3
      rw [if_pos hc]; rfl
  · have hc := of_decide_eq_false hc
    unfold row3
    rw [if_neg hc]
  rintro e rfl
  obtain ⟨hl, hr⟩ := row3_in (c := cc) (k := k) (m := m)
  unfold fields3
  generalize row3 cc k m = r at hl hr ⊢
  have g := get_in hr (by decide) (by decide)
  have ix : ∀ i : Nat, i < 8 → atI (r.map D.int) (i : Int) = some (.int (r.getD i 0)) := fun i hi => atI_ints (by omega) (by omega)
  have ix0 : atI (r.map D.int) 0 = some (.int (r.getD 0 0)) := ix 0 (by decide)
  have ix1 : atI (r.map D.int) 1 = some (.int (r.getD 1 0)) := ix 1 (by decide)
  have ix2 : atI (r.map D.int) 2 = some (.int (r.getD 2 0)) := ix 2 (by decide)
  have ix3 : atI (r.map D.int) 3 = some (.int (r.getD 3 0)) := ix 3 (by decide)
  have ix4 : atI (r.map D.int) 4 = some (.int (r.getD 4 0)) := ix 4 (by decide)
  have ix5 : atI (r.map D.int) 5 = some (.int (r.getD 5 0)) := ix 5 (by decide)
  have ix6 : atI (r.map D.int) 6 = some (.int (r.getD 6 0)) := ix 6 (by decide)
  have ix7 : atI (r.map D.int) 7 = some (.int (r.getD 7 0)) := ix 7 (by decide)
  have hdb : ∀ n, data3 k m n = if n > 60 then (long3 k m).take n.toNat else rowF m (decide (k % 2 = 0)) 256 (if 60 < n then 60 else n) := fun _ => rfl
  generalize decide (k % 2 = 0) = b at hdb ⊢
  show Exec K [] _ _ [.val (.int cc), .val (.int k), .val (.int m), .val (.bl b), .val (.lst (r.map D.int)), .val (.int (k / 2 % 5)), .any, .any, .any, .any, .any] _ _ _ _
  refine x_seq (x_set (d := .int (r.getD 4 0 * 256 + r.getD 5 0)) (by walk_at "ev") ?_)
  show Exec K [] _ _ [.val (.int cc), .val (.int k), .val (.int m), .val (.bl b), .val (.lst (r.map D.int)), .val (.int (k / 2 % 5)), .any, .val (.int (r.getD 4 0 * 256 + r.getD 5 0)), .any, .any, .any] _ _ _ _
  have h5 : 0 ≤ k / 10 % 5 ∧ k / 10 % 5 < 5 := by omega
  refine x_seq (x_set (d := .int (first3 r k)) (ev_o (ev_o (Ev.give (o := .lst (([r.getD 6 0 * 256 + r.getD 7 0, 0, 1000, 8 * r.getD 6 0, r.getD 7 0] : List Int).map D.int)) (en_is (by walk_at "en") (by rfl))) (by walk_at "ev") (oe_ixl (.inl (by rfl)) (atI_ints h5.1 (by show _ < (5 : Int); exact h5.2)))) ev_int (oe_mod (by decide))) ?_)
  obtain ⟨f0, f1⟩ := first3_in (r := r) (k := k)
  generalize first3 r k = f at f0 f1 ⊢
  show Exec K [] _ _ [.val (.int cc), .val (.int k), .val (.int m), .val (.bl b), .val (.lst (r.map D.int)), .val (.int (k / 2 % 5)), .any, .val (.int (r.getD 4 0 * 256 + r.getD 5 0)), .val (.int f), .any, .any] _ _ _ _
  have h4 : 0 ≤ k / 3050 % 4 * (if k / 12200 % 4 = 1 then 1 else 0) ∧ k / 3050 % 4 * (if k / 12200 % 4 = 1 then 1 else 0) < 4 := by split <;> omega
  refine x_seq (x_set (d := .int (many3 f k)) (ev_is (ev_c (ea_cons (ev_o (Ev.give (o := .lst (([k / 50 % 61, 0, 1, 1000] : List Int).map D.int)) (en_is (by walk_at "en") (by rfl))) (ev_is (d2 := .int (k / 3050 % 4 * (if k / 12200 % 4 = 1 then 1 else 0))) (ev_o (by walk_at "ev") (ev_c (by walk_at "ea") ce_intb) (oe_mulA (.inl (Or.inr ⟨?_, ?_⟩)))) ?_) (oe_ixl (.inl (by rfl)) (atI_ints h4.1 (by show _ < (4 : Int); exact h4.2)))) (ea_cons (by walk_at "ev") ea_nil)) ce_min2) (by rfl)) ?_)
  · split <;> decide
  · split <;> decide
  · congr 2
    by_cases q : k / 12200 % 4 = 1
    · rw [decide_eq_true q, if_pos q]; rfl
    · rw [decide_eq_false q, if_neg q]; rfl
  obtain ⟨n0, n1⟩ := many3_in (k := k) f0 f1
  generalize many3 f k = n at n0 n1 ⊢
  show Exec K [] _ _ [.val (.int cc), .val (.int k), .val (.int m), .val (.bl b), .val (.lst (r.map D.int)), .val (.int (k / 2 % 5)), .any, .val (.int (r.getD 4 0 * 256 + r.getD 5 0)), .val (.int f), .val (.int n), .any] _ _ _ _
  have dz : ∀ n : Int, (rowF m b 256 n).length = n.toNat := fun n => rowAt_len _
  have h60 : 0 ≤ (if 60 < n then 60 else n) ∧ (if 60 < n then 60 else n) ≤ 60 := by split <;> omega
  refine x_seq (x_set (d := .tup ((rowF m b 256 (if 60 < n then 60 else n)).map D.int)) (ev_c (ea_cons (Ev.give (o := .lst ((rowF m b 256 (if 60 < n then 60 else n)).map D.int)) (en_callV (ds := [.int m, .bl b, .int 256, .int (if 60 < n then 60 else n)]) (ea_cons (ev_var rfl) (ea_cons (ev_var rfl) (ea_cons ev_int (ea_cons (ev_c (by walk_at "ea") ce_min2) ea_nil)))) rfl ⟨_, _, _, _, rfl, by decide, by decide, h60.1, by omega, rfl⟩)) ea_nil) (ce_tup (.inl (by rfl)))) ?_)
  show Exec K [] _ _ [.val (.int cc), .val (.int k), .val (.int m), .val (.bl b), .val (.lst (r.map D.int)), .val (.int (k / 2 % 5)), .any, .val (.int (r.getD 4 0 * 256 + r.getD 5 0)), .val (.int f), .val (.int n), .val (.tup ((rowF m b 256 (if 60 < n then 60 else n)).map D.int))] _ _ _ _
  have hdd : data3 k m n = if n > 60 then (long3 k m).take n.toNat else rowF m b 256 (if 60 < n then 60 else n) := hdb n
  refine x_seq (x_cut (fun e => e = [.val (.int cc), .val (.int k), .val (.int m), .val (.bl b), .val (.lst (r.map D.int)), .val (.int (k / 2 % 5)), .any, .val (.int (r.getD 4 0 * 256 + r.getD 5 0)), .val (.int f), .val (.int n), .val (.tup ((data3 k m n).map D.int))]) (x_if (c := decide (n > 60)) (e1 := [.val (.int cc), .val (.int k), .val (.int m), .val (.bl b), .val (.lst (r.map D.int)), .val (.int (k / 2 % 5)), .any, .val (.int (r.getD 4 0 * 256 + r.getD 5 0)), .val (.int f), .val (.int n), .val (.tup ((rowF m b 256 (if 60 < n then 60 else n)).map D.int))]) (by walk_at "et") (fun hc => ?_) fun hc => x_next ?_) ?_)
  · have hc := of_decide_eq_true hc
    refine x_set (d := .tup ((data3 k m n).map D.int)) (ev_is (ev_slt (l := (long3 k m).map D.int) (ev_c (ea_cons (Ev.give (o := .lst ((long3 k m).map D.int)) (en_is (en_repL (l := (five3 k m).map D.int) (n := 200) (Ev.give (o := .lst ((five3 k m).map D.int)) (en_is (by walk_at "en") (by rfl))) ev_int (by walk_at "rd") (by decide) (by decide) (sz_le (by show 5 * 200 ≤ _; decide))) ?_)) ea_nil) (ce_tup (.inl (by rfl)))) eo_none (by walk_at "eo") (by rfl)) ?_) ?_
    · unfold long3
      rw [List.map_flatten, List.map_replicate]; rfl
    · rw [cut_to n0, hdd, if_pos hc, List.map_take]
    · rfl
  · have hc := of_decide_eq_false hc
    show _ = _
    simp only [hdd, if_neg hc]
  rintro e rfl
  generalize data3 k m n = d
  exact x_ret (e1 := [.val (.int cc), .val (.int k), .val (.int m), .val (.bl b), .val (.lst (r.map D.int)), .val (.int (k / 2 % 5)), .any, .val (.int (r.getD 4 0 * 256 + r.getD 5 0)), .val (.int f), .val (.int n), .val (.tup (d.map D.int))]) (d := .tup [.int (r.getD 0 0), .int (r.getD 1 0), .int (r.getD 2 0), .int (r.getD 3 0), .int (r.getD 4 0 * 256 + r.getD 5 0), .int f, .bl (decide (k / 97600 % 2 = 1)), .tup (d.map D.int)]) (by walk_at "ev") rfl

abbrev s_l_sum : Stmt := topS 38
abbrev N_l_sum : List Str := ["_law_head", "_law_total", "_law_k"]
theorem sc_l_sum : FnScope N_l_sum ["_law_head"] (defScope s_l_sum) := ⟨rfl, rfl, rfl, by decide +kernel, rfl, by decide +kernel, by decide +kernel⟩

theorem ok_l_sum {P : Program} {w : World} {K : PySem.W.Frag} {mg : Str → Option Value} {base : Heap} {a : Addr} {fd : FuncData} {c : Cad} (T : Txt c K mg) (F : Fun K "_law_sum" "_law_sum" s_l_sum a fd)  :
    FnOk P w K mg base CX0 1 a fd ["_law_head"] (SpG K (PV (p_lsum))) := by
  refine Fn.ofV F sc_l_sum (fun ds d ⟨_, h, _⟩ => by rcases h with h | h <;> rw [h] <;> rfl) fun cdv A outer s H E hr => ?_
  have nd := sc_l_sum.nd
  refine ⟨_, (pss_cons (ps_set (i := 1) nd rfl (by first | exact Or.inl rfl | exact Or.inr rfl) pe_int) (pss_cons (ps_for PassesOwn.never rfl (pi_range1 rfl T.b_range (pa_cons pe_int pa_nil)) (pg_name (i := 2) nd rfl (by first | exact Or.inl rfl | exact Or.inr rfl)) (pss_one (ps_set (i := 1) nd rfl (by first | exact Or.inl rfl | exact Or.inr rfl) (pe_op (op_addU (K := K)) (pe_op (op_addU (K := K)) (pv 1) (pe_op (op_mulA (K := K)) (pe_ix (ix_U (K := K)) (pv 0) (pe_op (op_mulA (K := K)) pe_int (pv 2)) (fun _ _ => rfl)) pe_int)) (pe_ix (ix_U (K := K)) (pv 0) (pe_op (op_addU (K := K)) (pe_op (op_mulA (K := K)) pe_int (pv 2)) pe_int) (fun _ _ => rfl)))))) (pss_one (ps_ret (pe_ifExp (pt_cmpR op_gtU (pv 1) pe_int (nomark _)) (pe_op op_subU (pe_op op_subU pe_int (pe_op op_modU (pe_op op_subU (pv 1) pe_int) pe_int)) pe_int) pe_int))))), ?_⟩
  try dsimp only [L2.cxOf, L2.Cx.nox, L2.Cx.wish]

  intro ds d h
  obtain ⟨l, h, hl, hb, rfl⟩ := h
  rcases h with rfl | rfl
  · show Exec K [] _ _ [.val (.lst (l.map D.int)), .any, .any] _ _ _ _
    refine x_seq (x_set (d := .int (tots l 0)) (by walk_at "ev") ?_)
    refine x_seq (x_forN (fun i e => ∃ v, e = [.val (.lst (l.map D.int)), .val (.int (tots l i)), v]) (ei_r1 ev_int (by decide) (by decide)) ⟨_, rfl⟩ ?_ ?_)
    · rintro i d e hd ⟨v, rfl⟩
      obtain ⟨rfl, hi⟩ := rng_get hd
      have hi : i < 6 := hi
      rw [Int.zero_add]
      show Exec K [] _ _ [.val (.lst (l.map D.int)), .val (.int (tots l i)), .val (.int (i : Nat))] _ _ _ _
      refine x_set (d := .int (tots l (i + 1))) (ev_is (ev_o (ev_o (ev_var rfl) (ev_o (ev_o (ev_var rfl) (ev_o ev_int (ev_var rfl) (oe_mulA (.inl (Or.inl ⟨by decide, by decide⟩)))) (oe_ixl (.inl (by rfl)) (atI_ints (by omega) (by omega)))) ev_int (oe_mulA (.inl (Or.inr ⟨by decide, by decide⟩)))) oe_add) (ev_o (ev_var rfl) (ev_o (ev_o ev_int (ev_var rfl) (oe_mulA (.inl (Or.inl ⟨by decide, by decide⟩)))) ev_int oe_add) (oe_ixl (.inl (by rfl)) (atI_ints (by omega) (by omega)))) oe_add) ?_) ⟨_, rfl⟩
      show D.int _ = D.int (tots l i + (l.getD (2 * i) 0 * 256 + l.getD (2 * i + 1) 0))
      rw [show (2 * ((i : Nat) : Int)).toNat = 2 * i by omega, show (2 * ((i : Nat) : Int) + 1).toNat = 2 * i + 1 by omega, Int.add_assoc]
    rintro e ⟨v, rfl⟩
    rw [rng_len]
    show Exec K [] _ _ [.val (.lst (l.map D.int)), .val (.int (tots l 6)), v] _ _ _ _
    obtain ⟨t0, t1⟩ := tots_in hb 6
    unfold sumF fin
    generalize tots l 6 = t at t0 t1 ⊢
    refine x_ret (e1 := [.val (.lst (l.map D.int)), .val (.int t), v]) (d := .int (65535 - (if t = 0 then 0 else (t - 1) % 65535 + 1))) (ev_if (c := decide (t > 0)) (by walk_at "et") (fun hc => ?_) fun hc => ?_) rfl
    · have hc := of_decide_eq_true hc
      exact ev_is (by walk_at "ev") (by rw [if_neg (by omega)]; congr 1; omega)
    · have hc := of_decide_eq_false hc
      exact ev_is (by walk_at "ev") (by rw [if_pos (by omega)]; rfl)
  · show Exec K [] _ _ [.val (.tup (l.map D.int)), .any, .any] _ _ _ _
    refine x_seq (x_set (d := .int (tots l 0)) (by walk_at "ev") ?_)
    refine x_seq (x_forN (fun i e => ∃ v, e = [.val (.tup (l.map D.int)), .val (.int (tots l i)), v]) (ei_r1 ev_int (by decide) (by decide)) ⟨_, rfl⟩ ?_ ?_)
    · rintro i d e hd ⟨v, rfl⟩
      obtain ⟨rfl, hi⟩ := rng_get hd
      have hi : i < 6 := hi
      rw [Int.zero_add]
      show Exec K [] _ _ [.val (.tup (l.map D.int)), .val (.int (tots l i)), .val (.int (i : Nat))] _ _ _ _
      refine x_set (d := .int (tots l (i + 1))) (ev_is (ev_o (ev_o (ev_var rfl) (ev_o (ev_o (ev_var rfl) (ev_o ev_int (ev_var rfl) (oe_mulA (.inl (Or.inl ⟨by decide, by decide⟩)))) (oe_ixt (atI_ints (by omega) (by omega)))) ev_int (oe_mulA (.inl (Or.inr ⟨by decide, by decide⟩)))) oe_add) (ev_o (ev_var rfl) (ev_o (ev_o ev_int (ev_var rfl) (oe_mulA (.inl (Or.inl ⟨by decide, by decide⟩)))) ev_int oe_add) (oe_ixt (atI_ints (by omega) (by omega)))) oe_add) ?_) ⟨_, rfl⟩
      show D.int _ = D.int (tots l i + (l.getD (2 * i) 0 * 256 + l.getD (2 * i + 1) 0))
      rw [show (2 * ((i : Nat) : Int)).toNat = 2 * i by omega, show (2 * ((i : Nat) : Int) + 1).toNat = 2 * i + 1 by omega, Int.add_assoc]
    rintro e ⟨v, rfl⟩
    rw [rng_len]
    show Exec K [] _ _ [.val (.tup (l.map D.int)), .val (.int (tots l 6)), v] _ _ _ _
    obtain ⟨t0, t1⟩ := tots_in hb 6
    unfold sumF fin
    generalize tots l 6 = t at t0 t1 ⊢
    refine x_ret (e1 := [.val (.tup (l.map D.int)), .val (.int t), v]) (d := .int (65535 - (if t = 0 then 0 else (t - 1) % 65535 + 1))) (ev_if (c := decide (t > 0)) (by walk_at "et") (fun hc => ?_) fun hc => ?_) rfl
    · have hc := of_decide_eq_true hc
      exact ev_is (by walk_at "ev") (by rw [if_neg (by omega)]; congr 1; omega)
    · have hc := of_decide_eq_false hc
      exact ev_is (by walk_at "ev") (by rw [if_pos (by omega)]; rfl)

abbrev s_l_bytes : Stmt := topS 39
abbrev N_l_bytes : List Str := ["_law_fields_here", "_law_source", "_law_target", "_law_kind", "_law_life", "_law_name", "_law_first", "_law_more", "_law_data", "_law_head", "_law_total"]
theorem sc_l_bytes : FnScope N_l_bytes ["_law_fields_here"] (defScope s_l_bytes) := ⟨rfl, rfl, rfl, by decide +kernel, rfl, by decide +kernel, by decide +kernel⟩

theorem ok_l_bytes {P : Program} {w : World} {K : PySem.W.Frag} {mg : Str → Option Value} {base : Heap} {a : Addr} {fd : FuncData} {c : Cad} (T : Txt c K mg) (F : Fun K "_law_bytes" "_law_bytes" s_l_bytes a fd) (C_l_sum : Df P w K mg base 1 "_law_sum" (SpG K (PV (p_lsum)))) :
    FnOk P w K mg base CX0 2 a fd ["_law_fields_here"] (SpG K (PV (p_lbytes))) := by
  refine Fn.ofV F sc_l_bytes (fun ds d ⟨_, h, _⟩ => by rw [h]; rfl) fun cdv A outer s H E hr => ?_
  have nd := sc_l_bytes.nd
  refine ⟨_, (pss_cons (ps_asg (pv 0) (pg_tup rfl (pgs_cons (pg_name (i := 1) nd rfl (by first | exact Or.inl rfl | exact Or.inr rfl)) (pgs_cons (pg_name (i := 2) nd rfl (by first | exact Or.inl rfl | exact Or.inr rfl)) (pgs_cons (pg_name (i := 3) nd rfl (by first | exact Or.inl rfl | exact Or.inr rfl)) (pgs_cons (pg_name (i := 4) nd rfl (by first | exact Or.inl rfl | exact Or.inr rfl)) (pgs_cons (pg_name (i := 5) nd rfl (by first | exact Or.inl rfl | exact Or.inr rfl)) (pgs_cons (pg_name (i := 6) nd rfl (by first | exact Or.inl rfl | exact Or.inr rfl)) (pgs_cons (pg_name (i := 7) nd rfl (by first | exact Or.inl rfl | exact Or.inr rfl)) (pgs_cons (pg_name (i := 8) nd rfl (by first | exact Or.inl rfl | exact Or.inr rfl)) pgs_nil)))))))))) (pss_cons (ps_set (i := 9) nd rfl (by first | exact Or.inl rfl | exact Or.inr rfl) (pe_lst (pa_cons (pv 3) (pa_cons (pv 4) (pa_cons (pv 1) (pa_cons (pv 2) (pa_cons (pe_op op_divU (pv 5) pe_int) (pa_cons (pe_op op_modU (pv 5) pe_int) (pa_cons (pe_op op_divU (pv 6) pe_int) (pa_cons (pe_op op_modU (pv 6) pe_int) (pa_cons (pe_callTy call_intU (by rfl) T.b_int (by decide +kernel) (pa_cons (pv 7) pa_nil)) (pa_cons pe_int pa_nil)))))))))))) (pss_cons (ps_set (i := 9) nd rfl (by first | exact Or.inl rfl | exact Or.inr rfl) (pe_op (op_addU (K := K)) (pv 9) (pe_lst (pa_cons (pe_op op_divU (pe_callB (call_lenU (K := K)) (by rfl) T.b_len (by decide +kernel) (pa_cons (pv 8) pa_nil)) pe_int) (pa_cons (pe_op op_modU (pe_callB (call_lenU (K := K)) (by rfl) T.b_len (by decide +kernel) (pa_cons (pv 8) pa_nil)) pe_int) pa_nil))))) (pss_cons (ps_set (i := 10) nd rfl (by first | exact Or.inl rfl | exact Or.inr rfl) (pe_df C_l_sum hr (by decide) rfl (pa_cons (pv 9) pa_nil))) (pss_one (ps_ret (pe_op (op_addU (K := K)) (pe_callTy (call_tupleU (K := K)) (by rfl) T.b_tuple (by decide +kernel) (pa_cons (pe_op (op_addU (K := K)) (pv 9) (pe_lst (pa_cons (pe_op op_divU (pv 10) pe_int) (pa_cons (pe_op op_modU (pv 10) pe_int) pa_nil)))) pa_nil)) (pv 8)))))))), ?_⟩
  try dsimp only [L2.cxOf, L2.Cx.nox, L2.Cx.wish]

  intro ds d h
  obtain ⟨p, rfl, hp, rfl⟩ := h
  have hz : p.d.length ≤ 1000 := by have := hp.hz; have := hp.hf.1; omega
  have b12 := hp.bytes12
  show Exec K [] _ _ [.val (.tup p.args), .any, .any, .any, .any, .any, .any, .any, .any, .any, .any] _ _ _ _
  refine x_seq (x_asg (js := [1, 2, 3, 4, 5, 6, 7, 8]) (ev_var rfl) (eg_tup (egl_cons eg_name (egl_cons eg_name (egl_cons eg_name (egl_cons eg_name (egl_cons eg_name (egl_cons eg_name (egl_cons eg_name (egl_cons eg_name egl_nil)))))))) rfl) ?_)
  show Exec K [] _ _ [.val (.tup p.args), .val (.int p.s), .val (.int p.t), .val (.int p.k), .val (.int p.l), .val (.int p.n), .val (.int p.f), .val (.bl p.m), .val (.tup (p.d.map D.int)), .any, .any] _ _ _ _
  refine x_seq (x_set (d := .lst (([p.k, p.l, p.s, p.t, p.n / 256, p.n % 256, p.f / 256, p.f % 256, p.mi, 0] : List Int).map D.int)) (Ev.give (o := .lst (([p.k, p.l, p.s, p.t, p.n / 256, p.n % 256, p.f / 256, p.f % 256, p.mi, 0] : List Int).map D.int)) (en_is (en_lst (ea_cons (ev_var rfl) (ea_cons (ev_var rfl) (ea_cons (ev_var rfl) (ea_cons (ev_var rfl) (ea_cons (by walk_at "ev") (ea_cons (by walk_at "ev") (ea_cons (by walk_at "ev") (ea_cons (by walk_at "ev") (ea_cons (ev_c (by walk_at "ea") ce_intb) (ea_cons ev_int ea_nil)))))))))) rfl (sz_le (Nat.le_of_ble_eq_true rfl))) (by rfl))) ?_)
  show Exec K [] _ _ [.val (.tup p.args), .val (.int p.s), .val (.int p.t), .val (.int p.k), .val (.int p.l), .val (.int p.n), .val (.int p.f), .val (.bl p.m), .val (.tup (p.d.map D.int)), .val (.lst (([p.k, p.l, p.s, p.t, p.n / 256, p.n % 256, p.f / 256, p.f % 256, p.mi, 0] : List Int).map D.int)), .any] _ _ _ _
  have hlen : (((p.d.map D.int).length : Nat) : Int) = (p.d.length : Int) := by rw [List.length_map]
  refine x_seq (x_set (d := .lst (p.hd12.map D.int)) (Ev.give (o := .lst (p.hd12.map D.int)) (en_is (en_addl (l := ([p.k, p.l, p.s, p.t, p.n / 256, p.n % 256, p.f / 256, p.f % 256, p.mi, 0] : List Int).map D.int) (m := [.int ((p.d.length : Int) / 256), .int ((p.d.length : Int) % 256)]) (ev_var rfl) (Ev.give (o := .lst [.int ((p.d.length : Int) / 256), .int ((p.d.length : Int) % 256)]) (en_lst (ea_cons (ev_is (by walk_at "ev") (by rw [hlen])) (ea_cons (ev_is (by walk_at "ev") (by rw [hlen])) ea_nil)) rfl (sz_le (Nat.le_of_ble_eq_true rfl)))) (by walk_at "rd") (by walk_at "rd") (sz_le (Nat.le_of_ble_eq_true rfl))) (by rfl))) ?_)
  show Exec K [] _ _ [.val (.tup p.args), .val (.int p.s), .val (.int p.t), .val (.int p.k), .val (.int p.l), .val (.int p.n), .val (.int p.f), .val (.bl p.m), .val (.tup (p.d.map D.int)), .val (.lst (p.hd12.map D.int)), .any] _ _ _ _
  refine x_seq (x_set (d := .int (sumF p.hd12)) (ev_callV (by walk_at "ea") rfl ⟨_, .inl rfl, by show 12 ≤ 12; decide, b12, rfl⟩) ?_)
  have hrow : p.row = p.hd12 ++ [sumF p.hd12 / 256, sumF p.hd12 % 256] ++ p.d := rfl
  have hl12 : p.hd12.length = 12 := rfl
  generalize sumF p.hd12 = y at hrow ⊢
  generalize p.hd12 = h12 at hrow hl12 ⊢
  show Exec K [] _ _ [.val (.tup p.args), .val (.int p.s), .val (.int p.t), .val (.int p.k), .val (.int p.l), .val (.int p.n), .val (.int p.f), .val (.bl p.m), .val (.tup (p.d.map D.int)), .val (.lst (h12.map D.int)), .val (.int y)] _ _ _ _
  refine x_ret (e1 := [.val (.tup p.args), .val (.int p.s), .val (.int p.t), .val (.int p.k), .val (.int p.l), .val (.int p.n), .val (.int p.f), .val (.bl p.m), .val (.tup (p.d.map D.int)), .val (.lst (h12.map D.int)), .val (.int y)]) (d := .tup (p.row.map D.int)) (ev_is (ev_o (ev_c (ea_cons (Ev.give (o := .lst (h12.map D.int ++ [.int (y / 256), .int (y % 256)])) (en_addl (m := [.int (y / 256), .int (y % 256)]) (ev_var rfl) (Ev.give (o := .lst [.int (y / 256), .int (y % 256)]) (by walk_at "en")) (by walk_at "rd") (by walk_at "rd") (sz_le (by rw [List.length_map, hl12]; exact Nat.le_of_ble_eq_true rfl)))) ea_nil) (ce_tup (.inl (by rfl)))) (ev_var rfl) (oe_addt (sz_le (by rw [List.length_append, List.length_map, List.length_map, hl12]; show 12 + 2 + _ ≤ _; omega)))) (by rw [hrow, List.map_append, List.map_append]; rfl)) rfl

abbrev s_l_told : Stmt := topS 40
abbrev N_l_told : List Str := ["_law_packet", "_law_ends"]
theorem sc_l_told : FnScope N_l_told ["_law_packet"] (defScope s_l_told) := ⟨rfl, rfl, rfl, by decide +kernel, rfl, by decide +kernel, by decide +kernel⟩

theorem ok_l_told {P : Program} {w : World} {K : PySem.W.Frag} {mg : Str → Option Value} {base : Heap} {a : Addr} {fd : FuncData} {c : Cad} (T : Txt c K mg) (F : Fun K "_law_told" "_law_told" s_l_told a fd)  :
    FnOk P w K mg base CX0 1 a fd ["_law_packet"] (SpG K (PV (p_told c))) := by
  refine Fn.ofV F sc_l_told (fun ds d ⟨_, h, _⟩ => by rw [h]; rfl) fun cdv A outer s H E hr => ?_
  have nd := sc_l_told.nd
  refine ⟨_, (pss_cons (ps_set (i := 1) nd rfl (by first | exact Or.inl rfl | exact Or.inr rfl) (pe_tup (pa_cons (pe_fld (pv 0) rfl) (pa_cons (pe_fld (pv 0) rfl) (pa_cons (pe_fld (pv 0) rfl) (pa_cons (pe_fld (pv 0) rfl) pa_nil)))))) (pss_one (ps_ret (pe_op (op_addU (K := K)) (pv 1) (pe_tup (pa_cons (pe_fld (pv 0) rfl) (pa_cons (pe_fld (pv 0) rfl) (pa_cons (pe_fld (pv 0) rfl) (pa_cons (pe_fld (pv 0) rfl) pa_nil))))))))), ?_⟩
  try dsimp only [L2.cxOf, L2.Cx.nox, L2.Cx.wish]

  intro ds d h
  obtain ⟨p, rfl, rfl⟩ := h
  show Exec K [] _ _ [.val (pkO c p), .any] _ _ _ _
  refine x_seq (x_set (d := .tup [.int p.s, .int p.t, .int p.k, .int p.l]) (e1 := [.val (pkO c p), .any]) (ev_tup (ea_cons (ev_fld (ev_var rfl) T.cl_Packet T.n_Packet_source (by rfl)) (ea_cons (ev_fld (ev_var rfl) T.cl_Packet T.n_Packet_target (by rfl)) (ea_cons (ev_fld (ev_var rfl) T.cl_Packet T.n_Packet_kind (by rfl)) (ea_cons (ev_fld (ev_var rfl) T.cl_Packet T.n_Packet_life (by rfl)) ea_nil)))) rfl (sz_le (Nat.le_of_ble_eq_true rfl))) ?_)
  exact x_ret (e1 := [.val (pkO c p), .val (.tup [.int p.s, .int p.t, .int p.k, .int p.l])]) (d := .tup p.args) (ev_o (ev_var rfl) (ev_tup (ds := [.int p.n, .int p.f, .bl p.m, .tup (p.d.map D.int)]) (ea_cons (ev_fld (ev_var rfl) T.cl_Packet T.n_Packet_name (by rfl)) (ea_cons (ev_fld (ev_var rfl) T.cl_Packet T.n_Packet_first (by rfl)) (ea_cons (ev_fld (ev_var rfl) T.cl_Packet T.n_Packet_more (by rfl)) (ea_cons (ev_fld (ev_var rfl) T.cl_Packet T.n_Packet_data (by rfl)) ea_nil)))) rfl (sz_le (Nat.le_of_ble_eq_true rfl))) (oe_addt (sz_le (Nat.le_of_ble_eq_true rfl)))) rfl

abbrev s_l_found : Stmt := topS 44
abbrev N_l_found : List Str := ["_law_thing", "_law_caught", "_law_found_here", "_law_e"]
theorem sc_l_found : FnScope N_l_found ["_law_thing"] (defScope s_l_found) := ⟨rfl, rfl, rfl, by decide +kernel, rfl, by decide +kernel, by decide +kernel⟩

theorem ok_l_found {P : Program} {w : World} {K : PySem.W.Frag} {mg : Str → Option Value} {base : Heap} {a : Addr} {fd : FuncData} {c : Cad} (T : Txt c K mg) (F : Fun K "_law_found" "_law_found" s_l_found a fd) (C_l_class : Df P w K mg base 1 "_law_class" (SpG K (PV (p_class c)))) (C_l_told : Df P w K mg base 1 "_law_told" (SpG K (PV (p_told c)))) (C_packet_by : Dx P w K mg base 5 "packet_by" (SpG K (PR (p_by c)))) :
    FnOk P w K mg base CX0 6 a fd ["_law_thing"] (SpG K (PV (p_found))) := by
  refine Fn.ofV F sc_l_found (fun ds d ⟨_, h, _⟩ => by rw [h]; rfl) fun cdv A outer s H E hr => ?_
  have nd := sc_l_found.nd
  refine ⟨_, (pss_cons (ps_set (i := 1) nd rfl (by first | exact Or.inl rfl | exact Or.inr rfl) pe_non) (pss_cons (ps_set (i := 2) nd rfl (by first | exact Or.inl rfl | exact Or.inr rfl) pe_non) (pss_cons (ps_tryK (i := 3) (j := 1) rfl rfl rfl nd rfl rfl ⟨rfl, by decide, Or.inl T.g_WireError⟩ (fun W pn xe tk ps => (pss_one (ps_set (i := 2) nd rfl (by first | exact Or.inl rfl | exact Or.inr rfl) (pe_dx C_packet_by tk hr (by decide) rfl (pa_cons (pv 0) pa_nil))))) (fun a oe pn => pss_one (ps_set (i := 1) nd rfl (by first | exact Or.inl rfl | exact Or.inr rfl) (pv 3))) (Nat.le_of_ble_eq_true rfl)) (pss_one (ps_ret (pe_ifExp (pt_cmpR op_isU (pv 1) pe_non (nomark _)) (pe_df C_l_told hr (by decide) rfl (pa_cons (pv 2) pa_nil)) (pe_df C_l_class hr (by decide) rfl (pa_cons (pv 1) pa_nil)))))))), ?_⟩
  try dsimp only [L2.cxOf, L2.Cx.nox, L2.Cx.wish]

  intro ds d h
  obtain ⟨x, rfl, hx, rfl⟩ := h
  show Exec K [] _ _ [.val x, .any, .any, .any] _ _ _ _
  refine x_seq (x_set (d := .non) (by walk_at "ev") ?_)
  refine x_seq (x_set (d := .non) (by walk_at "ev") ?_)
  show Exec K [] _ _ [.val x, .val .non, .val .non, .any] _ _ _ _
  unfold foundD
  cases hr : readD x with
  | some p =>
    refine x_seq (x_cut (fun z => z = [.val x, .val .non, .val (pkO c p), .any]) (x_try fun W' => ?_) ?_)
    · exact x_set (d := pkO c p) (e1 := [.val x, .val .non, .val .non, .any]) (ev_callR (by walk_at "ea") rfl ⟨_, rfl, hx, by rw [hr]⟩) rfl
    · rintro z rfl
      exact x_ret (e1 := [.val x, .val .non, .val (pkO c p), .any]) (d := .tup p.args) (ev_if (c := true) (et_is (by walk_at "et") (by rfl)) (fun _ => ev_callV (by walk_at "ea") rfl ⟨_, rfl, rfl⟩) fun h => by cases h) rfl
  | none =>
    refine x_seq (x_cut (fun z => z = [.val x, .val (.exc c.NoPacket), .val .non, .any]) (x_try fun W' => ?_) ?_)
    · exact x_asgX (e1 := [.val x, .val .non, .val .non, .any]) (ex_callR (C := c.NoPacket) (by walk_at "ea") rfl ⟨_, rfl, hx, by rw [hr]⟩) ⟨T.m_NoPacket, rfl⟩
    · rintro z rfl
      exact x_ret (e1 := [.val x, .val (.exc c.NoPacket), .val .non, .any]) (d := .str "packet") (ev_if (c := false) (et_is (by walk_at "et") (by rfl)) (fun h => by cases h) fun _ => ev_callV (by walk_at "ea") rfl ⟨.packet, rfl, rfl⟩) rfl

abbrev s_l_all_ones : Stmt := topS 41
abbrev N_l_all_ones : List Str := ["_law_fields_here", "_law_row_here", "_law_total", "_law_k"]
theorem sc_l_all_ones : FnScope N_l_all_ones ["_law_fields_here"] (defScope s_l_all_ones) := ⟨rfl, rfl, rfl, by decide +kernel, rfl, by decide +kernel, by decide +kernel⟩

theorem ok_l_all_ones {P : Program} {w : World} {K : PySem.W.Frag} {mg : Str → Option Value} {base : Heap} {a : Addr} {fd : FuncData} {c : Cad} (T : Txt c K mg) (F : Fun K "_law_all_ones" "_law_all_ones" s_l_all_ones a fd) (C_l_bytes : Df P w K mg base 2 "_law_bytes" (SpG K (PV (p_lbytes)))) :
    FnOk P w K mg base CX0 3 a fd ["_law_fields_here"] (SpG K (PV (p_ones))) := by
  refine Fn.ofV F sc_l_all_ones (fun ds d ⟨_, h, _⟩ => by rw [h]; rfl) fun cdv A outer s H E hr => ?_
  have nd := sc_l_all_ones.nd
  refine ⟨_, (pss_cons (ps_set (i := 1) nd rfl (by first | exact Or.inl rfl | exact Or.inr rfl) (pe_df C_l_bytes hr (by decide) rfl (pa_cons (pe_op (op_addU (K := K)) (pe_op (op_addU (K := K)) (pe_slice (sl_U (K := K)) (pv 0) po_none (po_some pe_int)) (pe_tup (pa_cons pe_int pa_nil))) (pe_slice (sl_U (K := K)) (pv 0) (po_some pe_int) po_none)) pa_nil))) (pss_cons (ps_set (i := 2) nd rfl (by first | exact Or.inl rfl | exact Or.inr rfl) pe_int) (pss_cons (ps_for PassesOwn.never rfl (pi_range1 rfl T.b_range (pa_cons pe_int pa_nil)) (pg_name (i := 3) nd rfl (by first | exact Or.inl rfl | exact Or.inr rfl)) (pss_one (ps_set (i := 2) nd rfl (by first | exact Or.inl rfl | exact Or.inr rfl) (pe_op (op_addU (K := K)) (pe_op (op_addU (K := K)) (pv 2) (pe_op (op_mulA (K := K)) (pe_ix (ix_U (K := K)) (pv 1) (pe_op (op_mulA (K := K)) pe_int (pv 3)) (fun _ _ => rfl)) pe_int)) (pe_ix (ix_U (K := K)) (pv 1) (pe_op (op_addU (K := K)) (pe_op (op_mulA (K := K)) pe_int (pv 3)) pe_int) (fun _ _ => rfl)))))) (pss_one (ps_ret (pe_op (op_addU (K := K)) (pe_op (op_addU (K := K)) (pe_slice (sl_U (K := K)) (pv 0) po_none (po_some pe_int)) (pe_tup (pa_cons (pe_op op_modU (pe_un un_neg (pv 2)) pe_int) pa_nil))) (pe_slice (sl_U (K := K)) (pv 0) (po_some pe_int) po_none))))))), ?_⟩
  try dsimp only [L2.cxOf, L2.Cx.nox, L2.Cx.wish]

  intro ds d h
  obtain ⟨p, rfl, hp, rfl⟩ := h
  obtain ⟨o1, o2⟩ := ones_ok hp
  show Exec K [] _ _ [.val (.tup p.args), .any, .any, .any] _ _ _ _
  refine x_seq (x_set (d := .tup ((Pk.row { p with n := 0 }).map D.int)) (e1 := [.val (.tup p.args), .any, .any, .any]) (ev_callV (ds := [.tup (Pk.args { p with n := 0 })]) (ea_cons (ev_is (d2 := .tup (Pk.args { p with n := 0 })) (ev_o (ev_o (ev_slt (ev_var rfl) eo_none (by walk_at "eo") (by rfl)) (ev_tup (ds := [.int 0]) (by walk_at "ea") rfl (sz_le (Nat.le_of_ble_eq_true rfl))) (oe_addt (sz_le (Nat.le_of_ble_eq_true rfl)))) (ev_slt (ev_var rfl) (by walk_at "eo") eo_none (by rfl)) (oe_addt (sz_le (Nat.le_of_ble_eq_true rfl)))) (by rfl)) ea_nil) rfl ⟨_, rfl, o2, rfl⟩) ?_)
  unfold ones
  have hl : 14 ≤ (Pk.row { p with n := 0 }).length := by rw [Pk.row_len]; omega
  generalize Pk.row { p with n := 0 } = l at hl ⊢
  show Exec K [] _ _ [.val (.tup p.args), .val (.tup (l.map D.int)), .any, .any] _ _ _ _
  refine x_seq (x_set (d := .int (tots l 0)) (by walk_at "ev") ?_)
  refine x_seq (x_forN (fun i e => ∃ v, e = [.val (.tup p.args), .val (.tup (l.map D.int)), .val (.int (tots l i)), v]) (ei_r1 ev_int (by decide) (by decide)) ⟨_, rfl⟩ ?_ ?_)
  · rintro i d e hd ⟨v, rfl⟩
    obtain ⟨rfl, hi⟩ := rng_get hd
    have hi : i < 6 := hi
    rw [Int.zero_add]
    show Exec K [] _ _ [.val (.tup p.args), .val (.tup (l.map D.int)), .val (.int (tots l i)), .val (.int (i : Nat))] _ _ _ _
    refine x_set (d := .int (tots l (i + 1))) (ev_is (ev_o (ev_o (ev_var rfl) (ev_o (ev_o (ev_var rfl) (ev_o ev_int (ev_var rfl) (oe_mulA (.inl (Or.inl ⟨by decide, by decide⟩)))) (oe_ixt (atI_ints (by omega) (by omega)))) ev_int (oe_mulA (.inl (Or.inr ⟨by decide, by decide⟩)))) oe_add) (ev_o (ev_var rfl) (ev_o (ev_o ev_int (ev_var rfl) (oe_mulA (.inl (Or.inl ⟨by decide, by decide⟩)))) ev_int oe_add) (oe_ixt (atI_ints (by omega) (by omega)))) oe_add) ?_) ⟨_, rfl⟩
    show D.int _ = D.int (tots l i + (l.getD (2 * i) 0 * 256 + l.getD (2 * i + 1) 0))
    rw [show (2 * ((i : Nat) : Int)).toNat = 2 * i by omega, show (2 * ((i : Nat) : Int) + 1).toNat = 2 * i + 1 by omega, Int.add_assoc]
  rintro e ⟨v, rfl⟩
  rw [rng_len]
  show Exec K [] _ _ [.val (.tup p.args), .val (.tup (l.map D.int)), .val (.int (tots l 6)), v] _ _ _ _
  generalize tots l 6 = t
  exact x_ret (e1 := [.val (.tup p.args), .val (.tup (l.map D.int)), .val (.int t), v]) (d := .tup (Pk.args { p with n := -t % 65535 })) (ev_is (ev_o (ev_o (ev_slt (ev_var rfl) eo_none (by walk_at "eo") (by rfl)) (ev_tup (ds := [.int (-t % 65535)]) (by walk_at "ea") rfl (sz_le (Nat.le_of_ble_eq_true rfl))) (oe_addt (sz_le (Nat.le_of_ble_eq_true rfl)))) (ev_slt (ev_var rfl) (by walk_at "eo") eo_none (by rfl)) (oe_addt (sz_le (Nat.le_of_ble_eq_true rfl)))) (by rfl)) rfl

abbrev s_l_read : Stmt := topS 43
abbrev N_l_read : List Str := ["_law_thing", "_law_wrong", "_law_one", "_law_first"]
theorem sc_l_read : FnScope N_l_read ["_law_thing"] (defScope s_l_read) := ⟨rfl, rfl, rfl, by decide +kernel, rfl, by decide +kernel, by decide +kernel⟩

theorem ok_l_read {P : Program} {w : World} {K : PySem.W.Frag} {mg : Str → Option Value} {base : Heap} {a : Addr} {fd : FuncData} {c : Cad} (T : Txt c K mg) (F : Fun K "_law_read" "_law_read" s_l_read a fd) (C_l_sum : Df P w K mg base 1 "_law_sum" (SpG K (PV (p_lsum)))) :
    FnOk P w K mg base CX0 2 a fd ["_law_thing"] (SpG K (PV (p_read))) := by
  refine Fn.ofV F sc_l_read (fun ds d ⟨_, h, _⟩ => by rw [h]; rfl) fun cdv A outer s H E hr => ?_
  have nd := sc_l_read.nd
  refine ⟨_, (pss_cons (ps_if (PW.pt (pw_or (pt_not (pt_val (pe_callB (call_isiA (K := K)) (by rfl) T.b_isinstance (by decide +kernel) (pa_cons (pv 0) (pa_cons (pe_bltn (v := .ty "tuple") (by rfl) T.b_tuple (by decide +kernel) rfl) pa_nil))))) (pw_or1 (pt_cmpR op_ltU (pe_callB (call_lenU (K := K)) (by rfl) T.b_len (by decide +kernel) (pa_cons (pv 0) pa_nil)) pe_int (nomark _))))) (pss_one (ps_ret pe_non)) pss_nil) (pss_cons (ps_setLc (i := 1) (own := [("_law_one", 2)]) (g := (gName 2)) rfl nd rfl rfl (sw_true rfl rfl rfl (by decide +kernel)) (pi_seqU (K := K) (pv 0)) (blkOk_by (own := [("_law_one", 2)]) (N := N_l_read) (sc := defScope s_l_read) (by decide +kernel)) (fun _ _ _ _ _ => (pg_name (i := 2) nd rfl (by first | exact Or.inl rfl | exact Or.inr rfl))) (fun _ _ _ _ _ => (pts_one (PW.pt (pw_or (pt_not (pt_val (pe_callB (call_isiA (K := K)) (by rfl) T.b_isinstance (by decide +kernel) (pa_cons (pv 2) (pa_cons (pe_bltn (v := .ty "int") (by rfl) T.b_int (by decide +kernel) rfl) pa_nil))))) (pw_or (pt_val (pe_callB (call_isiA (K := K)) (by rfl) T.b_isinstance (by decide +kernel) (pa_cons (pv 2) (pa_cons (pe_bltn (v := .ty "bool") (by rfl) T.b_bool (by decide +kernel) rfl) pa_nil)))) (pw_or (pt_cmpR op_ltU (pv 2) pe_int (nomark _)) (pw_or1 (pt_cmpR op_gtU (pv 2) pe_int (nomark _))))))))) (fun _ _ _ _ _ => (pv 2))) (pss_cons (ps_if (PW.pt (pw_or (pt_cmpR (op_neU (K := K) hr.units) (pv 1) (pe_lst pa_nil) (nomark _)) (pw_or (pt_cmpR op_gtU (pe_ix (ix_U (K := K)) (pv 0) pe_int (fun _ _ => rfl)) pe_int (nomark _)) (pw_or (pt_cmpR op_gtU (pe_ix (ix_U (K := K)) (pv 0) pe_int (fun _ _ => rfl)) pe_int (nomark _)) (pw_or1 (pt_cmpR (op_neU (K := K) hr.units) (pe_op (op_addU (K := K)) (pe_op (op_mulA (K := K)) (pe_ix (ix_U (K := K)) (pv 0) pe_int (fun _ _ => rfl)) pe_int) (pe_ix (ix_U (K := K)) (pv 0) pe_int (fun _ _ => rfl))) (pe_op op_subU (pe_callB (call_lenU (K := K)) (by rfl) T.b_len (by decide +kernel) (pa_cons (pv 0) pa_nil)) pe_int) (nomark _))))))) (pss_one (ps_ret pe_non)) pss_nil) (pss_cons (ps_set (i := 3) nd rfl (by first | exact Or.inl rfl | exact Or.inr rfl) (pe_op (op_addU (K := K)) (pe_op (op_mulA (K := K)) (pe_ix (ix_U (K := K)) (pv 0) pe_int (fun _ _ => rfl)) pe_int) (pe_ix (ix_U (K := K)) (pv 0) pe_int (fun _ _ => rfl)))) (pss_cons (ps_if (PW.pt (pw_or (pt_cmpR (op_neU (K := K) hr.units) (pe_op (op_addU (K := K)) (pe_op (op_mulA (K := K)) (pe_ix (ix_U (K := K)) (pv 0) pe_int (fun _ _ => rfl)) pe_int) (pe_ix (ix_U (K := K)) (pv 0) pe_int (fun _ _ => rfl))) (pe_df C_l_sum hr (by decide) rfl (pa_cons (pv 0) pa_nil)) (nomark _)) (pw_or1 (pt_cmpR op_gtU (pe_op op_subU (pe_op (op_addU (K := K)) (pv 3) (pe_callB (call_lenU (K := K)) (by rfl) T.b_len (by decide +kernel) (pa_cons (pv 0) pa_nil))) pe_int) pe_int (nomark _))))) (pss_one (ps_ret pe_non)) pss_nil) (pss_one (ps_ret (pe_tup (pa_cons (pe_ix (ix_U (K := K)) (pv 0) pe_int (fun _ _ => rfl)) (pa_cons (pe_ix (ix_U (K := K)) (pv 0) pe_int (fun _ _ => rfl)) (pa_cons (pe_ix (ix_U (K := K)) (pv 0) pe_int (fun _ _ => rfl)) (pa_cons (pe_ix (ix_U (K := K)) (pv 0) pe_int (fun _ _ => rfl)) (pa_cons (pe_op (op_addU (K := K)) (pe_op (op_mulA (K := K)) (pe_ix (ix_U (K := K)) (pv 0) pe_int (fun _ _ => rfl)) pe_int) (pe_ix (ix_U (K := K)) (pv 0) pe_int (fun _ _ => rfl))) (pa_cons (pv 3) (pa_cons (pe_cmpR (op_eqU (K := K) hr.units) (pe_ix (ix_U (K := K)) (pv 0) pe_int (fun _ _ => rfl)) pe_int (nomark _)) (pa_cons (pe_slice (sl_U (K := K)) (pv 0) (po_some pe_int) po_none) pa_nil)))))))))))))))), ?_⟩
  try dsimp only [L2.cxOf, L2.Cx.nox, L2.Cx.wish]

  intro ds d h
  obtain ⟨x, rfl, ⟨hx, hxp⟩, rfl⟩ := h
  show Exec K [] _ _ [.val x, .any, .any, .any] _ _ _ _
  refine x_seq ?_
  cases x with
  | tup L =>
    obtain ⟨hxo, hlz⟩ := hx
    have hz := sz100 hlz
    have hpl := hxp L rfl
    refine x_if (c := decide ((L.length : Int) < 14)) (e1 := [.val (.tup L), .any, .any, .any]) (et_is (et_or (c1 := !true) (c2 := decide ((L.length : Int) < 14)) (by walk_at "et") fun _ => by walk_at "et") (by rfl)) (fun hc => ?_) fun hc => x_next ?_
    · have hc := of_decide_eq_true hc
      rw [read_tup, show isPk (L.map intOf) = false by unfold isPk; rw [decide_eq_false (by rw [List.length_map]; omega), Bool.false_and], Bool.and_false]
      exact x_ret (e1 := [.val (.tup L), .any, .any, .any]) (d := .non) ev_non rfl
    have h14 : 14 ≤ L.length := by have := of_decide_eq_false hc; omega
    refine x_seq (x_set (d := .lst (L.filter fun x => !isWhole 0 255 x)) (Ev.give (o := .lst (L.filter fun x => !isWhole 0 255 x)) (en_is (en_lc1d (xs := L) (p := fun x => !isWhole 0 255 x) (f := fun x => x) (ei_t (ev_var rfl)) (by walk_at "no") hz (fun y hy => ?_) fun y hy _ => by walk_at "ev") (by rw [List.map_id']))) ?_)
    · have hy := hxo y hy
      show EvT K _ [.val (.tup L), .any, .val y, .any] _ _
      cases y with
      | int i => exact et_is (by walk_at "et") (by show (!true || (false || (decide (i < 0) || decide (i > 255)))) = _; rw [out255]; rfl)
      | bl i => exact et_is (et_or (c1 := !true) (c2 := true) (by walk_at "et") fun _ => et_or (c1 := true) (c2 := true) (by walk_at "et") fun h => by cases h) rfl
      | ty n => cases hy
      | ref n => cases hy
      | scr n => cases hy
      | obj n m => cases hy
      | exc n => cases hy
      | _ => exact et_is (et_or (c1 := true) (c2 := true) (et_not (c := false) (by walk_at "et")) fun h => by cases h) rfl
    have hE : (L.filter fun x => !isWhole 0 255 x).isEmpty = L.all (isWhole 0 255) := filt_all
    have hP : pl 60 (.lst (L.filter fun x => !isWhole 0 255 x)) = true := by
      unfold pl
      exact plL_all fun y hy => hpl y (List.mem_filter.mp hy).1
    generalize (L.filter fun x => !isWhole 0 255 x) = wr at hE hP ⊢
    show Exec K [] _ _ [.val (.tup L), .val (.lst wr), .any, .any] _ _ _ _
    rw [read_tup]
    cases hall : L.all (isWhole 0 255) with
    | false =>
      rw [hall] at hE
      exact x_seq (x_if (c := true) (e1 := [.val (.tup L), .val (.lst wr), .any, .any]) (et_or (c1 := true) (c2 := true) (et_is (et_b (ev_o (ev_var rfl) (Ev.give (o := .lst []) (by walk_at "en")) (oe_ned (by rfl) (by rfl) (eqD_nil hP)))) (by rw [hE]; rfl)) fun h => by cases h) (fun _ => x_ret (e1 := [.val (.tup L), .val (.lst wr), .any, .any]) (d := .non) ev_non rfl) fun h => by cases h)
    | true =>
      rw [hall] at hE
      obtain ⟨l, rfl, hb⟩ : ∃ l : List Int, L = l.map D.int ∧ Bytes l := ⟨_, (all_ints hall).1, (all_ints hall).2⟩
      rw [Bool.true_and, ints_back]
      rw [List.length_map] at h14
      have lm : ((l.map D.int).length : Int) = (l.length : Int) := by rw [List.length_map]
      have ix : ∀ i : Nat, i < 14 → atI (l.map D.int) (i : Int) = some (.int (l.getD i 0)) := fun i hi => atI_ints (by omega) (by omega)
      have i0 : atI (l.map D.int) 0 = some (.int (l.getD 0 0)) := ix 0 (by decide)
      have i1 : atI (l.map D.int) 1 = some (.int (l.getD 1 0)) := ix 1 (by decide)
      have i2 : atI (l.map D.int) 2 = some (.int (l.getD 2 0)) := ix 2 (by decide)
      have i3 : atI (l.map D.int) 3 = some (.int (l.getD 3 0)) := ix 3 (by decide)
      have i4 : atI (l.map D.int) 4 = some (.int (l.getD 4 0)) := ix 4 (by decide)
      have i5 : atI (l.map D.int) 5 = some (.int (l.getD 5 0)) := ix 5 (by decide)
      have i6 : atI (l.map D.int) 6 = some (.int (l.getD 6 0)) := ix 6 (by decide)
      have i7 : atI (l.map D.int) 7 = some (.int (l.getD 7 0)) := ix 7 (by decide)
      have i8 : atI (l.map D.int) 8 = some (.int (l.getD 8 0)) := ix 8 (by decide)
      have i9 : atI (l.map D.int) 9 = some (.int (l.getD 9 0)) := ix 9 (by decide)
      have i10 : atI (l.map D.int) 10 = some (.int (l.getD 10 0)) := ix 10 (by decide)
      have i11 : atI (l.map D.int) 11 = some (.int (l.getD 11 0)) := ix 11 (by decide)
      have i12 : atI (l.map D.int) 12 = some (.int (l.getD 12 0)) := ix 12 (by decide)
      have i13 : atI (l.map D.int) 13 = some (.int (l.getD 13 0)) := ix 13 (by decide)
      have d14 : decide (14 ≤ l.length) = true := decide_eq_true h14
      have p9 := hb _ (getD_in (d := 0) (show 9 < l.length by omega))
      refine x_seq (x_if (c := decide (l.getD 8 0 > 1) || (decide (l.getD 9 0 > 0) || !decide (wAt l 10 = (l.length : Int) - 14))) (e1 := [.val (.tup (l.map D.int)), .val (.lst wr), .any, .any]) (et_is (et_or (c1 := false) (et_is (et_b (ev_o (ev_var rfl) (Ev.give (o := .lst []) (by walk_at "en")) (oe_ned (by rfl) (by rfl) (eqD_nil hP)))) (by rw [hE]; rfl)) fun _ => et_or (et_b (by walk_at "ev")) fun _ => et_or (et_b (by walk_at "ev")) fun _ => et_is (et_b (by walk_at "ev")) (by rw [lm])) (by rfl)) (fun hc => ?_) fun hc => x_next ?_)
      · rw [show isPk l = false by
          unfold isPk
          rw [d14, Bool.true_and]
          by_cases a : l.getD 8 0 ≤ 1
          · rw [decide_eq_false (show ¬ l.getD 8 0 > 1 by omega), Bool.false_or] at hc
            by_cases b : l.getD 9 0 = 0
            · rw [decide_eq_false (show ¬ l.getD 9 0 > 0 by omega), Bool.false_or] at hc
              rw [Bool.not_eq_true'] at hc
              rw [hc, Bool.false_and, Bool.and_false, Bool.and_false]
            · rw [decide_eq_false b, Bool.false_and, Bool.and_false]
          · rw [decide_eq_false a, Bool.false_and]]
        exact x_ret (e1 := [.val (.tup (l.map D.int)), .val (.lst wr), .any, .any]) (d := .non) ev_non rfl
      have c3 : l.getD 8 0 ≤ 1 ∧ l.getD 9 0 = 0 ∧ wAt l 10 = (l.length : Int) - 14 := by
        rw [Bool.or_eq_false_iff, Bool.or_eq_false_iff, Bool.not_eq_false'] at hc
        have h1 := of_decide_eq_false hc.1
        have h2 := of_decide_eq_false hc.2.1
        exact ⟨by omega, by omega, of_decide_eq_true hc.2.2⟩
      obtain ⟨c8, c9, c10⟩ := c3
      refine x_seq (x_set (d := .int (wAt l 6)) (ev_is (by walk_at "ev") (by rfl)) ?_)
      show Exec K [] _ _ [.val (.tup (l.map D.int)), .val (.lst wr), .any, .val (.int (wAt l 6))] _ _ _ _
      refine x_seq (x_if (c := !decide (wAt l 12 = sumF l) || decide (wAt l 6 + (l.length : Int) - 14 > 1000)) (e1 := [.val (.tup (l.map D.int)), .val (.lst wr), .any, .val (.int (wAt l 6))]) (et_or (et_b (ev_o (ev_is (d2 := .int (wAt l 12)) (by walk_at "ev") (by rfl)) (ev_callV (by walk_at "ea") rfl ⟨_, .inr rfl, by omega, hb, rfl⟩) oe_nei)) fun _ => et_is (et_b (by walk_at "ev")) (by rw [lm])) (fun hc => ?_) fun hc => x_next ?_)
      · rw [show isPk l = false by
          unfold isPk
          rw [d14, decide_eq_true c8, decide_eq_true c9, decide_eq_true c10]
          by_cases a : wAt l 12 = sumF l
          · rw [decide_eq_true a] at hc
            have hc := of_decide_eq_true (show decide (wAt l 6 + (l.length : Int) - 14 > 1000) = true from hc)
            rw [decide_eq_false (show ¬ wAt l 6 + (l.length : Int) - 14 ≤ 1000 by omega)]
            simp
          · rw [decide_eq_false a]; rfl]
        exact x_ret (e1 := [.val (.tup (l.map D.int)), .val (.lst wr), .any, .val (.int (wAt l 6))]) (d := .non) ev_non rfl
      rw [Bool.or_eq_false_iff, Bool.not_eq_false'] at hc
      have c12 := of_decide_eq_true hc.1
      have c6 := of_decide_eq_false hc.2
      rw [show isPk l = true by
        unfold isPk
        rw [d14, decide_eq_true c8, decide_eq_true c9, decide_eq_true c10, decide_eq_true c12, decide_eq_true (show wAt l 6 + (l.length : Int) - 14 ≤ 1000 by omega)]; rfl]
      exact x_ret (e1 := [.val (.tup (l.map D.int)), .val (.lst wr), .any, .val (.int (wAt l 6))]) (d := .tup (pkOf l).args) (ev_is (ev_tup (ea_cons (by walk_at "ev") (ea_cons (by walk_at "ev") (ea_cons (by walk_at "ev") (ea_cons (by walk_at "ev") (ea_cons (by walk_at "ev") (ea_cons (ev_var rfl) (ea_cons (by walk_at "ev") (ea_cons (ev_is (d2 := .tup ((l.drop 14).map D.int)) (ev_slt (ev_var rfl) (by walk_at "eo") eo_none (by rfl)) (by rw [cut_from (by decide), List.map_drop]; rfl)) ea_nil)))))))) rfl (sz_le (Nat.le_of_ble_eq_true rfl))) (by rfl)) rfl
  | ty n => cases hx
  | ref n => cases hx
  | scr n => cases hx
  | obj n m => cases hx
  | exc n => cases hx
  | _ => exact x_if (c := true) (et_or (c1 := true) (c2 := true) (et_not (c := false) (by walk_at "et")) fun h => by cases h) (fun _ => x_ret (d := .non) ev_non rfl) fun h => by cases h

abbrev s_l_changed : Stmt := topS 42
abbrev N_l_changed : List Str := ["_law_row_here", "_law_control", "_law_spoil", "_law_at", "_law_byte", "_law_kind_of_change", "_law_other", "_law_low", "_law_high", "_law_head", "_law_total"]
theorem sc_l_changed : FnScope N_l_changed ["_law_row_here", "_law_control", "_law_spoil"] (defScope s_l_changed) := ⟨rfl, rfl, rfl, by decide +kernel, rfl, by decide +kernel, by decide +kernel⟩

theorem ok_l_changed {P : Program} {w : World} {K : PySem.W.Frag} {mg : Str → Option Value} {base : Heap} {a : Addr} {fd : FuncData} {c : Cad} (T : Txt c K mg) (F : Fun K "_law_changed" "_law_changed" s_l_changed a fd) (C_l_sum : Df P w K mg base 1 "_law_sum" (SpG K (PV (p_lsum)))) :
    FnOk P w K mg base CX0 2 a fd ["_law_row_here", "_law_control", "_law_spoil"] (SpG K (PV (p_changed))) := by
  refine Fn.ofV F sc_l_changed (fun ds d ⟨_, _, _, h, _⟩ => by rw [h]; rfl) fun cdv A outer s H E hr => ?_
  have nd := sc_l_changed.nd
  refine ⟨_, (pss_cons (ps_set (i := 3) nd rfl (by first | exact Or.inl rfl | exact Or.inr rfl) (pe_ix (ix_U (K := K)) (pe_lst (pa_cons (pe_op op_modU (pe_op op_divU (pv 2) pe_int) (pe_callB (call_lenU (K := K)) (by rfl) T.b_len (by decide +kernel) (pa_cons (pv 0) pa_nil))) (pa_cons (pe_op op_modU (pe_op op_divU (pv 2) pe_int) pe_int) pa_nil))) (pe_op op_modU (pv 1) pe_int) (fun _ _ => rfl))) (pss_cons (ps_set (i := 4) nd rfl (by first | exact Or.inl rfl | exact Or.inr rfl) (pe_op op_modU (pe_op op_divU (pv 2) pe_int) pe_int)) (pss_cons (ps_set (i := 5) nd rfl (by first | exact Or.inl rfl | exact Or.inr rfl) (pe_op op_modU (pv 2) pe_int)) (pss_cons (ps_if (pt_cmpR op_ltU (pv 5) pe_int (nomark _)) (pss_one (ps_ret (pe_op (op_addU (K := K)) (pe_op (op_addU (K := K)) (pe_slice (sl_U (K := K)) (pv 0) po_none (po_some (pv 3))) (pe_tup (pa_cons (pv 4) pa_nil))) (pe_slice (sl_U (K := K)) (pv 0) (po_some (pe_op (op_addU (K := K)) (pv 3) pe_int)) po_none)))) pss_nil) (pss_cons (ps_if (pt_cmpR (op_eqU (K := K) hr.units) (pv 5) pe_int (nomark _)) (pss_one (ps_ret (pe_op (op_addU (K := K)) (pe_slice (sl_U (K := K)) (pv 0) po_none (po_some (pv 3))) (pe_slice (sl_U (K := K)) (pv 0) (po_some (pe_op (op_addU (K := K)) (pv 3) pe_int)) po_none)))) pss_nil) (pss_cons (ps_if (pt_cmpR (op_eqU (K := K) hr.units) (pv 5) pe_int (nomark _)) (pss_one (ps_ret (pe_op (op_addU (K := K)) (pe_op (op_addU (K := K)) (pe_slice (sl_U (K := K)) (pv 0) po_none (po_some (pv 3))) (pe_tup (pa_cons (pv 4) pa_nil))) (pe_slice (sl_U (K := K)) (pv 0) (po_some (pv 3)) po_none)))) pss_nil) (pss_cons (ps_if (pt_cmpR (op_eqU (K := K) hr.units) (pv 5) pe_int (nomark _)) (pss_cons (ps_set (i := 6) nd rfl (by first | exact Or.inl rfl | exact Or.inr rfl) (pe_op op_modU (pv 4) pe_int)) (pss_cons (ps_par (i := 7) (j := 8) rfl nd rfl rfl (by decide) rfl rfl (pa_cons (pe_callB (call_min2U rfl) (by rfl) T.b_min (by decide +kernel) (pa_cons (pe_op op_modU (pv 3) pe_int) (pa_cons (pv 6) pa_nil))) (pa_cons (pe_callB (call_max2U rfl) (by rfl) T.b_max (by decide +kernel) (pa_cons (pe_op op_modU (pv 3) pe_int) (pa_cons (pv 6) pa_nil))) pa_nil)) (by rfl)) (pss_one (ps_ret (pe_op (op_addU (K := K)) (pe_op (op_addU (K := K)) (pe_op (op_addU (K := K)) (pe_op (op_addU (K := K)) (pe_slice (sl_U (K := K)) (pv 0) po_none (po_some (pv 7))) (pe_tup (pa_cons (pe_ix (ix_U (K := K)) (pv 0) (pv 8) (fun _ _ => rfl)) pa_nil))) (pe_slice (sl_U (K := K)) (pv 0) (po_some (pe_op (op_addU (K := K)) (pv 7) pe_int)) (po_some (pv 8)))) (pe_op (op_mulA (K := K)) (pe_tup (pa_cons (pe_ix (ix_U (K := K)) (pv 0) (pv 7) (fun _ _ => rfl)) pa_nil)) (pe_callTy call_intU (by rfl) T.b_int (by decide +kernel) (pa_cons (pe_cmpR op_gtU (pv 8) (pv 7) (nomark _)) pa_nil)))) (pe_slice (sl_U (K := K)) (pv 0) (po_some (pe_op (op_addU (K := K)) (pv 8) pe_int)) po_none)))))) pss_nil) (pss_cons (ps_if (pt_cmpR op_ltU (pv 5) pe_int (nomark _)) (pss_cons (ps_set (i := 9) nd rfl (by first | exact Or.inl rfl | exact Or.inr rfl) (pe_callTy (call_listU (K := K)) (by rfl) T.b_list (by decide +kernel) (pa_cons (pe_op (op_addU (K := K)) (pe_op (op_addU (K := K)) (pe_slice (sl_U (K := K)) (pv 0) po_none (po_some (pe_op op_modU (pv 3) pe_int))) (pe_tup (pa_cons (pv 4) pa_nil))) (pe_slice (sl_U (K := K)) (pv 0) (po_some (pe_op (op_addU (K := K)) (pe_op op_modU (pv 3) pe_int) pe_int)) (po_some pe_int))) pa_nil))) (pss_cons (ps_set (i := 10) nd rfl (by first | exact Or.inl rfl | exact Or.inr rfl) (pe_df C_l_sum hr (by decide) rfl (pa_cons (pv 9) pa_nil))) (pss_one (ps_ret (pe_op (op_addU (K := K)) (pe_callTy (call_tupleU (K := K)) (by rfl) T.b_tuple (by decide +kernel) (pa_cons (pe_op (op_addU (K := K)) (pv 9) (pe_lst (pa_cons (pe_op op_divU (pv 10) pe_int) (pa_cons (pe_op op_modU (pv 10) pe_int) pa_nil)))) pa_nil)) (pe_slice (sl_U (K := K)) (pv 0) (po_some pe_int) po_none)))))) pss_nil) (pss_cons (ps_if (pt_cmpR (op_eqU (K := K) hr.units) (pv 5) pe_int (nomark _)) (pss_one (ps_ret (pe_op (op_addU (K := K)) (pe_op (op_addU (K := K)) (pe_slice (sl_U (K := K)) (pv 0) po_none (po_some pe_int)) (pe_tup (pa_cons (pe_op op_subU pe_int (pe_ix (ix_U (K := K)) (pv 0) pe_int (fun _ _ => rfl))) (pa_cons (pe_op op_subU pe_int (pe_ix (ix_U (K := K)) (pv 0) pe_int (fun _ _ => rfl))) pa_nil)))) (pe_slice (sl_U (K := K)) (pv 0) (po_some pe_int) po_none)))) pss_nil) (pss_cons (ps_if (pt_cmpR (op_eqU (K := K) hr.units) (pv 5) pe_int (nomark _)) (pss_one (ps_ret (pe_op (op_addU (K := K)) (pe_op (op_addU (K := K)) (pe_slice (sl_U (K := K)) (pv 0) po_none (po_some (pv 3))) (pe_tup (pa_cons (pe_ix (ix_U (K := K)) (pe_lst (pa_cons pe_int (pa_cons (pe_un un_neg pe_int) (pa_cons pe_bl (pa_cons pe_non (pa_cons pe_str (pa_cons (pe_tup (pa_cons pe_int pa_nil)) pa_nil))))))) (pe_op op_modU (pv 4) pe_int) (fun _ _ => rfl)) pa_nil))) (pe_slice (sl_U (K := K)) (pv 0) (po_some (pe_op (op_addU (K := K)) (pv 3) pe_int)) po_none)))) pss_nil) (pss_one (ps_ret (pe_ix (ix_U (K := K)) (pe_lst (pa_cons (pe_callTy (call_listU (K := K)) (by rfl) T.b_list (by decide +kernel) (pa_cons (pv 0) pa_nil)) (pa_cons pe_non (pa_cons pe_str (pa_cons (pe_slice (sl_U (K := K)) (pv 0) po_none (po_some pe_int)) (pa_cons (pe_tup pa_nil) (pa_cons pe_int (pa_cons (pe_op (op_addU (K := K)) (pv 0) (pe_op (op_mulA (K := K)) (pe_tup (pa_cons pe_int pa_nil)) pe_int)) pa_nil)))))))) (pe_op op_modU (pv 4) pe_int) (fun _ _ => rfl)))))))))))))), ?_⟩
  try dsimp only [L2.cxOf, L2.Cx.nox, L2.Cx.wish]

  intro ds d h
  obtain ⟨l, k, s, rfl, h14, hz, hb, rfl⟩ := h
  have lm : ((l.map D.int).length : Int) = (l.length : Int) := by rw [List.length_map]
  have cl : ∀ a b, (cutD (l.map D.int) a b).length ≤ 1014 := fun a b => Nat.le_trans cut_len (by rw [List.length_map]; exact hz)
  show Exec K [] _ _ [.val (.tup (l.map D.int)), .val (.int k), .val (.int s), .any, .any, .any, .any, .any, .any, .any, .any] _ _ _ _
  refine x_seq (x_set (d := .int (atF l k s)) (ev_o (Ev.give (o := .lst (([s / 10 % (l.length : Int), s / 10 % 14] : List Int).map D.int)) (en_is (en_lst (ea_cons (ev_is (ev_o (by walk_at "ev") (by walk_at "ev") (oe_mod (by rw [lm]; omega))) (by rw [lm])) (ea_cons (by walk_at "ev") ea_nil)) rfl (sz_le (Nat.le_of_ble_eq_true rfl))) (by rfl))) (by walk_at "ev") (oe_ixl (.inl (by rfl)) (atI_ints (by omega) (by show _ < (2 : Int); omega)))) ?_)
  obtain ⟨a0, a1⟩ := atF_in (k := k) (s := s) h14
  unfold changedF
  generalize atF l k s = a at a0 a1 ⊢
  refine x_seq (x_set (d := .int (s / 14000 % 256)) (by walk_at "ev") ?_)
  have hbb : 0 ≤ s / 14000 % 256 ∧ s / 14000 % 256 < 256 := by omega
  generalize s / 14000 % 256 = b at hbb ⊢
  refine x_seq (x_set (d := .int (s % 10)) (by walk_at "ev") ?_)
  generalize s % 10 = kd
  unfold changedG
  show Exec K [] _ _ [.val (.tup (l.map D.int)), .val (.int k), .val (.int s), .val (.int a), .val (.int b), .val (.int kd), .any, .any, .any, .any, .any] _ _ _ _
  have mid : ∀ (ta : TE) (x : D), Ev K ta [.val (.tup (l.map D.int)), .val (.int k), .val (.int s), .val (.int a), .val (.int b), .val (.int kd), .any, .any, .any, .any, .any] (.val x) [.val (.tup (l.map D.int)), .val (.int k), .val (.int s), .val (.int a), .val (.int b), .val (.int kd), .any, .any, .any, .any, .any] → Ev K (tOp (rAddU K) (tOp (rAddU K) (tSl (rSlU K) (tVar 0) tNoPart (tPart (tVar 3))) (tTup (tCons ta tNil))) (tSl (rSlU K) (tVar 0) (tPart (tOp (rAddU K) (tVar 3) (tC (.int 1)))) tNoPart)) [.val (.tup (l.map D.int)), .val (.int k), .val (.int s), .val (.int a), .val (.int b), .val (.int kd), .any, .any, .any, .any, .any] (.val (.tup (cutD (l.map D.int) none (some a) ++ [x] ++ cutD (l.map D.int) (some (a + 1)) none))) [.val (.tup (l.map D.int)), .val (.int k), .val (.int s), .val (.int a), .val (.int b), .val (.int kd), .any, .any, .any, .any, .any] := fun ta x h =>
    ev_o (ev_o (ev_slt (ev_var rfl) eo_none (by walk_at "eo") (by rfl)) (ev_tup (ds := [x]) (ea_cons h ea_nil) rfl (sz_le (Nat.le_of_ble_eq_true rfl))) (oe_addt (sz_le (by have := cl none (some a); show _ + 1 ≤ _; omega)))) (ev_slt (ev_var rfl) (by walk_at "eo") eo_none (by rfl)) (oe_addt (sz_le (by rw [List.length_append]; have := cl none (some a); have := cl (some (a + 1)) none; show _ + 1 + _ ≤ _; omega)))
  refine x_seq (x_if (c := decide (kd < 2)) (e1 := [.val (.tup (l.map D.int)), .val (.int k), .val (.int s), .val (.int a), .val (.int b), .val (.int kd), .any, .any, .any, .any, .any]) (by walk_at "et") (fun hc => ?_) fun hc => x_next ?_)
  · rw [if_pos (of_decide_eq_true hc)]
    exact x_ret (e1 := [.val (.tup (l.map D.int)), .val (.int k), .val (.int s), .val (.int a), .val (.int b), .val (.int kd), .any, .any, .any, .any, .any]) (mid _ (.int b) (ev_var rfl)) rfl
  rw [if_neg (of_decide_eq_false hc)]
  refine x_seq (x_if (c := decide (kd = 2)) (e1 := [.val (.tup (l.map D.int)), .val (.int k), .val (.int s), .val (.int a), .val (.int b), .val (.int kd), .any, .any, .any, .any, .any]) (by walk_at "et") (fun hc => ?_) fun hc => x_next ?_)
  · rw [if_pos (of_decide_eq_true hc)]
    exact x_ret (e1 := [.val (.tup (l.map D.int)), .val (.int k), .val (.int s), .val (.int a), .val (.int b), .val (.int kd), .any, .any, .any, .any, .any]) (ev_o (ev_slt (ev_var rfl) eo_none (by walk_at "eo") (by rfl)) (ev_slt (ev_var rfl) (by walk_at "eo") eo_none (by rfl)) (oe_addt (sz_le (by have := cl none (some a); have := cl (some (a + 1)) none; omega)))) rfl
  rw [if_neg (of_decide_eq_false hc)]
  refine x_seq (x_if (c := decide (kd = 3)) (e1 := [.val (.tup (l.map D.int)), .val (.int k), .val (.int s), .val (.int a), .val (.int b), .val (.int kd), .any, .any, .any, .any, .any]) (by walk_at "et") (fun hc => ?_) fun hc => x_next ?_)
  · rw [if_pos (of_decide_eq_true hc)]
    exact x_ret (e1 := [.val (.tup (l.map D.int)), .val (.int k), .val (.int s), .val (.int a), .val (.int b), .val (.int kd), .any, .any, .any, .any, .any]) (ev_o (ev_o (ev_slt (ev_var rfl) eo_none (by walk_at "eo") (by rfl)) (ev_tup (ds := [.int b]) (by walk_at "ea") rfl (sz_le (Nat.le_of_ble_eq_true rfl))) (oe_addt (sz_le (by have := cl none (some a); show _ + 1 ≤ _; omega)))) (ev_slt (ev_var rfl) (by walk_at "eo") eo_none (by rfl)) (oe_addt (sz_le (by rw [List.length_append]; have := cl none (some a); have := cl (some a) none; show _ + 1 + _ ≤ _; omega)))) rfl
  rw [if_neg (of_decide_eq_false hc)]
  refine x_seq (x_if (c := decide (kd = 4)) (e1 := [.val (.tup (l.map D.int)), .val (.int k), .val (.int s), .val (.int a), .val (.int b), .val (.int kd), .any, .any, .any, .any, .any]) (by walk_at "et") (fun hc => ?_) fun hc => x_next ?_)
  · rw [if_pos (of_decide_eq_true hc)]
    refine x_seq (x_set (d := .int (b % 14)) (by walk_at "ev") ?_)
    refine x_seq (x_par (d1 := .int (loF a (b % 14))) (d2 := .int (hiF a (b % 14))) (ea_cons (ev_c (by walk_at "ea") ce_min2) (ea_cons (ev_c (by walk_at "ea") ce_max2) ea_nil)) ?_)
    have lo : 0 ≤ loF a (b % 14) ∧ loF a (b % 14) < 14 := by unfold loF; split <;> omega
    have hi : 0 ≤ hiF a (b % 14) ∧ hiF a (b % 14) < 14 := by unfold hiF; split <;> omega
    generalize loF a (b % 14) = x at lo ⊢
    generalize hiF a (b % 14) = y at hi ⊢
    unfold swL
    show Exec K [] _ _ [.val (.tup (l.map D.int)), .val (.int k), .val (.int s), .val (.int a), .val (.int b), .val (.int kd), .val (.int (b % 14)), .val (.int x), .val (.int y), .any, .any] _ _ _ _
    have rl : (List.replicate (if decide (y > x) then (1 : Int) else 0).toNat [D.int (l.getD x.toNat 0)]).flatten.length ≤ 1 := by rw [rep_len.1]; split <;> decide
    have rl2 : (List.replicate (if decide (x < y) then (1 : Int) else 0).toNat [D.int (l.getD x.toNat 0)]).flatten.length ≤ 1 := rl
    have c1 := cl none (some x)
    have c2 := cl (some (x + 1)) (some y)
    have c3 := cl (some (y + 1)) none
    refine x_ret (e1 := [.val (.tup (l.map D.int)), .val (.int k), .val (.int s), .val (.int a), .val (.int b), .val (.int kd), .val (.int (b % 14)), .val (.int x), .val (.int y), .any, .any]) (ev_o (ev_o (ev_o (ev_o (ev_slt (ev_var rfl) eo_none (by walk_at "eo") (by rfl)) (ev_tup (ds := [.int (l.getD y.toNat 0)]) (ea_cons (ev_o (ev_var rfl) (ev_var rfl) (oe_ixt (atI_ints hi.1 (by omega)))) ea_nil) rfl (sz_le (Nat.le_of_ble_eq_true rfl))) (oe_addt (sz_le (by show _ + 1 ≤ _; omega)))) (ev_slt (ev_var rfl) (by walk_at "eo") (by walk_at "eo") (by rfl)) (oe_addt (sz_le (by rw [List.length_append]; show _ + 1 + _ ≤ _; omega)))) (ev_o (ev_tup (ds := [.int (l.getD x.toNat 0)]) (ea_cons (ev_o (ev_var rfl) (ev_var rfl) (oe_ixt (atI_ints lo.1 (by omega)))) ea_nil) rfl (sz_le (Nat.le_of_ble_eq_true rfl))) (ev_c (ea_cons (ev_o (ev_var rfl) (ev_var rfl) oe_gt) ea_nil) ce_intb) (oe_rept (Nat.le_of_ble_eq_true rfl) (by split <;> decide) (by split <;> decide))) (oe_addt (sz_le (by rw [List.length_append, List.length_append]; show _ + 1 + _ + _ ≤ _; omega)))) (ev_slt (ev_var rfl) (by walk_at "eo") eo_none (by rfl)) (oe_addt (sz_le (by rw [List.length_append, List.length_append, List.length_append]; show _ + 1 + _ + _ + _ ≤ _; omega)))) rfl
  rw [if_neg (of_decide_eq_false hc)]
  refine x_seq (x_if (c := decide (kd < 7)) (e1 := [.val (.tup (l.map D.int)), .val (.int k), .val (.int s), .val (.int a), .val (.int b), .val (.int kd), .any, .any, .any, .any, .any]) (by walk_at "et") (fun hc => ?_) fun hc => x_next ?_)
  · rw [if_pos (of_decide_eq_true hc)]
    have ha : 0 ≤ a % 12 ∧ a % 12 < 12 := by omega
    obtain ⟨g1, g2⟩ := h12_in (a := (a % 12).toNat) (b := b) hb h14 (by omega) hbb.1 (by omega)
    refine x_seq (x_set (d := .lst ((h12 l (a % 12).toNat b).map D.int)) (Ev.give (o := .lst ((h12 l (a % 12).toNat b).map D.int)) (en_listof (ev_is (d2 := .tup ((h12 l (a % 12).toNat b).map D.int)) (ev_o (ev_o (ev_is (ev_slt (ev_var rfl) eo_none (by walk_at "eo") (by rfl)) (by rw [cut_to ha.1, ← List.map_take])) (ev_tup (ds := [.int b]) (by walk_at "ea") rfl (sz_le (Nat.le_of_ble_eq_true rfl))) (oe_addt (sz_le (by rw [List.length_map, List.length_take]; show _ + 1 ≤ _; omega)))) (ev_is (ev_slt (ev_var rfl) (by walk_at "eo") (by walk_at "eo") (by rfl)) (by rw [cut_in (by omega) (by omega) (by rw [lm]; omega), ← List.map_drop, ← List.map_take])) (oe_addt (sz_le (by rw [List.length_append, List.length_map, List.length_map, List.length_take, List.length_take]; show _ + 1 + _ ≤ _; omega)))) (by
      unfold h12
      rw [List.map_append, List.map_append, show (a % 12 + 1).toNat = (a % 12).toNat + 1 by omega, show (12 - (a % 12 + 1)).toNat = 12 - ((a % 12).toNat + 1) by omega]; rfl)) (.inr (by rfl)))) ?_)
    generalize h12 l (a % 12).toNat b = hd at g1 g2 ⊢
    show Exec K [] _ _ [.val (.tup (l.map D.int)), .val (.int k), .val (.int s), .val (.int a), .val (.int b), .val (.int kd), .any, .any, .any, .val (.lst (hd.map D.int)), .any] _ _ _ _
    refine x_seq (x_set (d := .int (sumF hd)) (ev_callV (by walk_at "ea") rfl ⟨_, .inl rfl, by omega, g2, rfl⟩) ?_)
    generalize sumF hd = t
    show Exec K [] _ _ [.val (.tup (l.map D.int)), .val (.int k), .val (.int s), .val (.int a), .val (.int b), .val (.int kd), .any, .any, .any, .val (.lst (hd.map D.int)), .val (.int t)] _ _ _ _
    have c3 := cl (some 14) none
    exact x_ret (e1 := [.val (.tup (l.map D.int)), .val (.int k), .val (.int s), .val (.int a), .val (.int b), .val (.int kd), .any, .any, .any, .val (.lst (hd.map D.int)), .val (.int t)]) (ev_o (ev_c (ea_cons (Ev.give (o := .lst ((hd ++ [t / 256, t % 256]).map D.int)) (en_is (en_addl (l := hd.map D.int) (m := [.int (t / 256), .int (t % 256)]) (ev_var rfl) (Ev.give (o := .lst [.int (t / 256), .int (t % 256)]) (by walk_at "en")) (by walk_at "rd") (by walk_at "rd") (sz_le (by rw [List.length_map, g1]; exact Nat.le_of_ble_eq_true rfl))) (by rw [List.map_append]; rfl))) ea_nil) (ce_tup (.inl (by rfl)))) (ev_slt (ev_var rfl) (by walk_at "eo") eo_none (by rfl)) (oe_addt (sz_le (by rw [List.length_map, List.length_append, g1]; show 12 + 2 + _ ≤ _; omega)))) rfl
  rw [if_neg (of_decide_eq_false hc)]
  refine x_seq (x_if (c := decide (kd = 9)) (e1 := [.val (.tup (l.map D.int)), .val (.int k), .val (.int s), .val (.int a), .val (.int b), .val (.int kd), .any, .any, .any, .any, .any]) (by walk_at "et") (fun hc => ?_) fun hc => x_next ?_)
  · rw [if_pos (of_decide_eq_true hc)]
    have i12 : atI (l.map D.int) 12 = some (.int (l.getD 12 0)) := atI_ints (by decide) (by omega)
    have i13 : atI (l.map D.int) 13 = some (.int (l.getD 13 0)) := atI_ints (by decide) (by omega)
    have c1 := cl none (some 12)
    have c3 := cl (some 14) none
    exact x_ret (e1 := [.val (.tup (l.map D.int)), .val (.int k), .val (.int s), .val (.int a), .val (.int b), .val (.int kd), .any, .any, .any, .any, .any]) (ev_o (ev_o (ev_slt (ev_var rfl) eo_none (by walk_at "eo") (by rfl)) (ev_tup (ds := [.int (255 - l.getD 12 0), .int (255 - l.getD 13 0)]) (by walk_at "ea") rfl (sz_le (Nat.le_of_ble_eq_true rfl))) (oe_addt (sz_le (by show _ + 2 ≤ _; omega)))) (ev_slt (ev_var rfl) (by walk_at "eo") eo_none (by rfl)) (oe_addt (sz_le (by rw [List.length_append]; show _ + 2 + _ ≤ _; omega)))) rfl
  rw [if_neg (of_decide_eq_false hc)]
  refine x_seq (x_if (c := decide (kd = 7)) (e1 := [.val (.tup (l.map D.int)), .val (.int k), .val (.int s), .val (.int a), .val (.int b), .val (.int kd), .any, .any, .any, .any, .any]) (by walk_at "et") (fun hc => ?_) fun hc => x_next ?_)
  · rw [if_pos (of_decide_eq_true hc)]
    exact x_ret (e1 := [.val (.tup (l.map D.int)), .val (.int k), .val (.int s), .val (.int a), .val (.int b), .val (.int kd), .any, .any, .any, .any, .any]) (mid _ (odds.getD (b % 6).toNat .non) (ev_o (Ev.give (o := .lst odds) (en_is (by walk_at "en") (by rfl))) (by walk_at "ev") (oe_ixl (.inl (by rfl)) (atI_lit (by omega) (by show _ < (6 : Int); omega))))) rfl
  rw [if_neg (of_decide_eq_false hc)]
  exact x_ret (e1 := [.val (.tup (l.map D.int)), .val (.int k), .val (.int s), .val (.int a), .val (.int b), .val (.int kd), .any, .any, .any, .any, .any]) (ev_o (Ev.give (o := .lst (things (l.map D.int))) (en_is (en_lst (ea_cons (Ev.give (o := .lst (l.map D.int)) (en_listof (ev_var rfl) (.inr (by rfl)))) (ea_cons ev_non (ea_cons ev_str (ea_cons (ev_slt (ev_var rfl) eo_none (by walk_at "eo") (by rfl)) (ea_cons (by walk_at "ev") (ea_cons ev_int (ea_cons (ev_o (ev_var rfl) (ev_o (ev_tup (ds := [.int 0]) (by walk_at "ea") rfl (sz_le (Nat.le_of_ble_eq_true rfl))) ev_int (oe_rept (by decide) (by decide) (by decide))) (oe_addt (sz_le (by rw [List.length_map, rep_len.1]; show _ + 1001 ≤ _; omega)))) ea_nil))))))) rfl (sz_le (Nat.le_of_ble_eq_true rfl))) (by rfl))) (by walk_at "ev") (oe_ixl (.inl (by rfl)) (atI_lit (by omega) (by show _ < (7 : Int); omega)))) rfl

abbrev s_law : Stmt := topS 45
abbrev N_law : List Str := ["_law_script", "_law_k", "_law_cell", "_law_control", "_law_more", "_law_j", "_law_fields_here", "_law_row_here", "_law_thing", "_law_due_fields"]
theorem sc_law : FnScope N_law ["_law_script"] (defScope s_law) := ⟨rfl, rfl, rfl, by decide +kernel, rfl, by decide +kernel, by decide +kernel⟩

theorem ok_law {P : Program} {w : World} {K : PySem.W.Frag} {mg : Str → Option Value} {base : Heap} {a : Addr} {fd : FuncData} {c : Cad} (T : Txt c K mg) (F : Fun K "law" "law" s_law a fd) (C_l_all_ones : Df P w K mg base 3 "_law_all_ones" (SpG K (PV (p_ones)))) (C_l_bytes : Df P w K mg base 2 "_law_bytes" (SpG K (PV (p_lbytes)))) (C_l_cell_at : Df P w K mg base 1 "_law_cell_at" (SpG K (PV (p_cell_at)))) (C_l_changed : Df P w K mg base 2 "_law_changed" (SpG K (PV (p_changed)))) (C_l_fields : Df P w K mg base 3 "_law_fields" (SpG K (PV (p_fields3)))) (C_l_found : Df P w K mg base 6 "_law_found" (SpG K (PV (p_found)))) (C_l_mixed : Df P w K mg base 1 "_law_mixed" (SpG K (PV (p_mixed)))) (C_l_read : Df P w K mg base 2 "_law_read" (SpG K (PV (p_read)))) :
    RunC P w K mg base CX0 a fd ["_law_script"] (SpG K (PV (p_law))) := by
  refine Fn.ofVC (k := 6) F sc_law ⟨rfl, by decide, by decide⟩ (fun ds d ⟨_, h, _⟩ => by rw [h]; rfl) fun cdv outer s H E hr => ?_
  have nd := sc_law.nd
  refine ⟨_, (pss_cons (ps_for PassesOwn.never rfl (pi_range3 rfl T.b_range (pa_cons pe_int (pa_cons (pe_callB (call_max2U rfl) (by rfl) T.b_max (by decide +kernel) (pa_cons pe_int (pa_cons (pe_callB (call_min2U rfl) (by rfl) T.b_min (by decide +kernel) (pa_cons pe_int (pa_cons (pe_callB (call_lenU (K := K)) (by rfl) T.b_len (by decide +kernel) (pa_cons (pv 0) pa_nil)) pa_nil))) pa_nil))) (pa_cons pe_int pa_nil)))) (pg_name (i := 1) nd rfl (by first | exact Or.inl rfl | exact Or.inr rfl)) (pss_cons (ps_asg (pe_lc (own := [("_law_j", 5)]) (g := (gName 5)) rfl nd (pi_range1 rfl T.b_range (pa_cons pe_int pa_nil)) (blkOk_by (own := [("_law_j", 5)]) (N := N_law) (sc := defScope s_law) (by decide +kernel)) (fun _ _ _ _ _ => (pg_name (i := 5) nd rfl (by first | exact Or.inl rfl | exact Or.inr rfl))) (fun _ _ _ _ _ => pts_nil) (fun _ _ _ _ _ => (pe_df C_l_cell_at hr (by decide) rfl (pa_cons (pv 0) (pa_cons (pe_op (op_addU (K := K)) (pv 1) (pv 5)) pa_nil))))) (pg_lst rfl (pgs_cons (pg_name (i := 2) nd rfl (by first | exact Or.inl rfl | exact Or.inr rfl)) (pgs_cons (pg_name (i := 3) nd rfl (by first | exact Or.inl rfl | exact Or.inr rfl)) (pgs_cons (pg_name (i := 4) nd rfl (by first | exact Or.inl rfl | exact Or.inr rfl)) pgs_nil))))) (pss_cons (ps_set (i := 6) nd rfl (by first | exact Or.inl rfl | exact Or.inr rfl) (pe_df C_l_fields hr (by decide) rfl (pa_cons (pv 2) (pa_cons (pv 3) (pa_cons (pv 4) pa_nil))))) (pss_cons (ps_if (pt_cmpR (op_eqU (K := K) hr.units) (pe_op op_modU (pe_op op_divU (pv 3) pe_int) pe_int) pe_int (nomark _)) (pss_one (ps_set (i := 6) nd rfl (by first | exact Or.inl rfl | exact Or.inr rfl) (pe_df C_l_all_ones hr (by decide) rfl (pa_cons (pv 6) pa_nil)))) pss_nil) (pss_cons (ps_set (i := 7) nd rfl (by first | exact Or.inl rfl | exact Or.inr rfl) (pe_df C_l_bytes hr (by decide) rfl (pa_cons (pv 6) pa_nil))) (pss_cons (ps_set (i := 8) nd rfl (by first | exact Or.inl rfl | exact Or.inr rfl) (pe_df C_l_changed hr (by decide) rfl (pa_cons (pv 7) (pa_cons (pv 3) (pa_cons (pe_op (op_addU (K := K)) (pe_op (op_mulA (K := K)) (pe_df C_l_mixed hr (by decide) rfl (pa_cons (pe_op (op_addU (K := K)) (pv 4) (pv 2)) (pa_cons (pv 1) pa_nil))) pe_int) (pe_op op_modU (pv 4) pe_int)) pa_nil))))) (pss_cons (ps_set (i := 9) nd rfl (by first | exact Or.inl rfl | exact Or.inr rfl) (pe_df C_l_read hr (by decide) rfl (pa_cons (pv 8) pa_nil))) (pss_cons (ps_if (pt_cmpR op_isU (pv 9) pe_non (nomark _)) (pss_one (ps_set (i := 9) nd rfl (by first | exact Or.inl rfl | exact Or.inr rfl) pe_str)) pss_nil) (pss_cons (ps_if (pt_cmpR (op_neU (K := K) hr.units) (pe_callB (DL.call_reprA rfl (DL.room65 hr)) (by rfl) T.b_repr (by decide +kernel) (pa_cons (pe_df C_l_found hr (by decide) rfl (pa_cons (pv 8) pa_nil)) pa_nil)) (pe_callB (DL.call_reprA rfl (DL.room65 hr)) (by rfl) T.b_repr (by decide +kernel) (pa_cons (pv 9) pa_nil)) (nomark _)) (pss_one (ps_ret pe_bl)) pss_nil) (pss_one (ps_if (pt_cmpR (op_neU (K := K) hr.units) (pe_callB (DL.call_reprA rfl (DL.room65 hr)) (by rfl) T.b_repr (by decide +kernel) (pa_cons (pe_df C_l_found hr (by decide) rfl (pa_cons (pv 7) pa_nil)) pa_nil)) (pe_callB (DL.call_reprA rfl (DL.room65 hr)) (by rfl) T.b_repr (by decide +kernel) (pa_cons (pe_df C_l_read hr (by decide) rfl (pa_cons (pv 7) pa_nil)) pa_nil)) (nomark _)) (pss_one (ps_ret pe_bl)) pss_nil))))))))))) (pss_one (ps_ret pe_bl))), ?_⟩
  try dsimp only [L2.cxOf, L2.Cx.nox, L2.Cx.wish]

  intro ds d h
  obtain ⟨ns, rfl, hl, rfl⟩ := h
  show Exec K [] _ _ [.val (.scr (ns.map D.int)), .any, .any, .any, .any, .any, .any, .any, .any, .any] _ _ _ _
  refine x_seq ?_
  have hb : (0 : Int) ≤ (if (if ((ns.map D.int).length : Int) < 63 then ((ns.map D.int).length : Int) else 63) > 1 then (if ((ns.map D.int).length : Int) < 63 then ((ns.map D.int).length : Int) else 63) else 1) ∧ (if (if ((ns.map D.int).length : Int) < 63 then ((ns.map D.int).length : Int) else 63) > 1 then (if ((ns.map D.int).length : Int) < 63 then ((ns.map D.int).length : Int) else 63) else 1) ≤ 70 := by simp only [List.length_map]; split <;> split <;> omega
  refine x_forN (fun i e => ∃ a1 a2 a3 a4 a6 a7 a8 a9, e = [.val (.scr (ns.map D.int)), a1, a2, a3, a4, .any, a6, a7, a8, a9]) (ei_r3 (by walk_at "ev") (by walk_at "ev") (by walk_at "ev") (rg3 hb.1 hb.2)) ⟨_, _, _, _, _, _, _, _, rfl⟩ ?_ ?_
  · rintro i d e hd ⟨a1, a2, a3, a4, a6, a7, a8, a9, rfl⟩
    obtain ⟨rfl, hi⟩ := rngC_get hd
    have hk : (0 : Int) ≤ 0 + (i : Nat) * 3 := by omega
    generalize (0 + (i : Nat) * 3 : Int) = n at hk ⊢
    show Exec K [] _ _ [.val (.scr (ns.map D.int)), .val (.int n), a2, a3, a4, .any, a6, a7, a8, a9] _ _ _ _
    refine x_seq (x_asg (d := .lst [.int (cellAt ns (n + (0 + 0))), .int (cellAt ns (n + (0 + 1))), .int (cellAt ns (n + (0 + 2)))]) (Ev.give (o := .lst [.int (cellAt ns (n + (0 + 0))), .int (cellAt ns (n + (0 + 1))), .int (cellAt ns (n + (0 + 2)))]) (en_is (en_lc0r (lo := 0) (f := fun j => .int (cellAt ns (n + (0 + (j : Nat))))) (by walk_at "ei") (by walk_at "no") (sz_le (by decide)) fun j hj => ev_callV (by walk_at "ea") rfl ⟨_, _, rfl, by omega, rfl⟩) (by rfl))) (eg_lst (egl_cons eg_name (egl_cons eg_name (egl_cons eg_name egl_nil))) rfl) ?_)
    generalize cellAt ns (n + (0 + 0)) = c0
    generalize cellAt ns (n + (0 + 1)) = c1
    generalize cellAt ns (n + (0 + 2)) = c2
    show Exec K [] _ _ [.val (.scr (ns.map D.int)), .val (.int n), .val (.int c0), .val (.int c1), .val (.int c2), .any, a6, a7, a8, a9] _ _ _ _
    refine x_seq (x_set (d := .tup (fields3 c0 c1 c2).args) (ev_callV (by walk_at "ea") rfl ⟨_, _, _, rfl, rfl⟩) ?_)
    have hp := fields3_ok (c := c0) (k := c1) (m := c2)
    generalize fields3 c0 c1 c2 = p0 at hp ⊢
    show Exec K [] _ _ [.val (.scr (ns.map D.int)), .val (.int n), .val (.int c0), .val (.int c1), .val (.int c2), .any, .val (.tup p0.args), a7, a8, a9] _ _ _ _
    refine x_seq (x_cut (fun e => ∃ p : Pk, p.Ok ∧ e = [.val (.scr (ns.map D.int)), .val (.int n), .val (.int c0), .val (.int c1), .val (.int c2), .any, .val (.tup p.args), a7, a8, a9]) (x_if (c := decide (c1 / 195200 % 4 = 1)) (e1 := [.val (.scr (ns.map D.int)), .val (.int n), .val (.int c0), .val (.int c1), .val (.int c2), .any, .val (.tup p0.args), a7, a8, a9]) (by walk_at "et") (fun _ => ?_) fun _ => x_next ⟨p0, hp, rfl⟩) ?_)
    · exact x_set (d := .tup (ones p0).args) (ev_callV (ea_cons (ev_var rfl) ea_nil) rfl ⟨_, rfl, hp, rfl⟩) ⟨ones p0, (ones_ok hp).1, rfl⟩
    rintro e ⟨p, hp, rfl⟩
    refine x_seq (x_set (d := .tup (p.row.map D.int)) (e1 := [.val (.scr (ns.map D.int)), .val (.int n), .val (.int c0), .val (.int c1), .val (.int c2), .any, .val (.tup p.args), a7, a8, a9]) (ev_callV (ea_cons (ev_var rfl) ea_nil) rfl ⟨_, rfl, hp, rfl⟩) ?_)
    have hbt := hp.bytes
    have l1 : p.row.length ≤ 1014 := by rw [Pk.row_len]; have := hp.hz; have := hp.hf.1; omega
    have l0 : 14 ≤ p.row.length := by rw [Pk.row_len]; omega
    have hrow : readD (.tup (p.row.map D.int)) = some (pkOf p.row) := by rw [read_ints hbt, isPk_row hp]; rfl
    have xrow : okX (.tup (p.row.map D.int)) := okX_ints (by omega)
    generalize p.row = r at hbt l1 l0 hrow xrow ⊢
    show Exec K [] _ _ [.val (.scr (ns.map D.int)), .val (.int n), .val (.int c0), .val (.int c1), .val (.int c2), .any, .val (.tup p.args), .val (.tup (r.map D.int)), a8, a9] _ _ _ _
    refine x_seq (x_set (d := changedF r c1 (mixed (c2 + c0) n * 10 + c2 % 10)) (ev_callV (ds := [.tup (r.map D.int), .int c1, .int (mixed (c2 + c0) n * 10 + c2 % 10)]) (ea_cons (ev_var rfl) (ea_cons (ev_var rfl) (ea_cons (ev_o (ev_o (ev_callV (d := .int (mixed (c2 + c0) n)) (by walk_at "ea") rfl ⟨_, _, rfl, rfl⟩) ev_int (oe_mulA (.inl (Or.inr ⟨by decide, by decide⟩)))) (by walk_at "ev") oe_add) ea_nil))) rfl ⟨_, _, _, rfl, l0, l1, hbt, rfl⟩) ?_)
    have hx : okX (changedF r c1 (mixed (c2 + c0) n * 10 + c2 % 10)) := changed_ok l1 l0
    generalize changedF r c1 (mixed (c2 + c0) n * 10 + c2 % 10) = x at hx ⊢
    show Exec K [] _ _ [.val (.scr (ns.map D.int)), .val (.int n), .val (.int c0), .val (.int c1), .val (.int c2), .any, .val (.tup p.args), .val (.tup (r.map D.int)), .val x, a9] _ _ _ _
    have rA : ∀ (q : Pk), q.Ok → ∀ (ts : TA) (e e' : DL.Env), EvA K ts e [.val (.tup q.args)] e' → Ev K (tCB (rReprA K) ts) e (.val (.str (shownD (.tup q.args)))) e' := fun q hq ts e e' h => ev_c h (ce_reprAT rfl (pl_args q) (shw_args hq) (cost_args hq))
    refine x_seq (x_cut (fun e => e = [.val (.scr (ns.map D.int)), .val (.int n), .val (.int c0), .val (.int c1), .val (.int c2), .any, .val (.tup p.args), .val (.tup (r.map D.int)), .val x, .val (match readD x with | some p => .tup p.args | none => .non)]) (x_set (ev_callV (ea_cons (ev_var rfl) ea_nil) rfl ⟨x, rfl, hx, rfl⟩) rfl) ?_)
    rintro e rfl
    refine x_seq (x_cut (fun e => e = [.val (.scr (ns.map D.int)), .val (.int n), .val (.int c0), .val (.int c1), .val (.int c2), .any, .val (.tup p.args), .val (.tup (r.map D.int)), .val x, .val (foundD x)]) ?_ ?_)
    · unfold foundD
      cases readD x with
      | some q =>
        exact x_if (c := false) (e1 := [.val (.scr (ns.map D.int)), .val (.int n), .val (.int c0), .val (.int c1), .val (.int c2), .any, .val (.tup p.args), .val (.tup (r.map D.int)), .val x, .val (.tup q.args)]) (et_is (by walk_at "et") (by rfl)) (fun h => by cases h) fun _ => x_next rfl
      | none =>
        exact x_if (c := true) (e1 := [.val (.scr (ns.map D.int)), .val (.int n), .val (.int c0), .val (.int c1), .val (.int c2), .any, .val (.tup p.args), .val (.tup (r.map D.int)), .val x, .val .non]) (et_is (by walk_at "et") (by rfl)) (fun _ => x_set (d := .str "packet") ev_str rfl) fun h => by cases h
    rintro e rfl
    have rF : ∃ w : Str, ∀ (ts : TA) (e e' : DL.Env), EvA K ts e [.val (foundD x)] e' → Ev K (tCB (rReprA K) ts) e (.val (.str w)) e' := by
      unfold foundD
      cases hq : readD x with
      | some q => exact ⟨_, fun ts e e' h => rA q (read_ok hq) ts e e' h⟩
      | none => exact ⟨reprText "packet", fun ts e e' h => ev_c h (ce_reprAS (by decide +kernel))⟩
    obtain ⟨w, rF⟩ := rF
    refine x_seq (x_if (c := false) (e1 := [.val (.scr (ns.map D.int)), .val (.int n), .val (.int c0), .val (.int c1), .val (.int c2), .any, .val (.tup p.args), .val (.tup (r.map D.int)), .val x, .val (foundD x)]) (et_is (et_b (ev_o (rF _ _ _ (ea_cons (ev_callV (ea_cons (ev_var rfl) ea_nil) rfl ⟨_, rfl, hx.1, rfl⟩) ea_nil)) (rF _ _ _ (ea_cons (ev_var rfl) ea_nil)) oe_nes)) (by simp)) (fun h => by cases h) fun _ => x_next ?_)
    have hq := read_ok hrow
    exact x_if (c := false) (e1 := [.val (.scr (ns.map D.int)), .val (.int n), .val (.int c0), .val (.int c1), .val (.int c2), .any, .val (.tup p.args), .val (.tup (r.map D.int)), .val x, .val (foundD x)]) (et_is (et_b (ev_o (rA _ hq _ _ _ (ea_cons (ev_callV (ea_cons (ev_var rfl) ea_nil) rfl ⟨_, rfl, xrow.1, by unfold foundD; rw [hrow]⟩) ea_nil)) (rA _ hq _ _ _ (ea_cons (ev_callV (ea_cons (ev_var rfl) ea_nil) rfl ⟨_, rfl, xrow, by rw [hrow]⟩) ea_nil)) oe_nes)) (by simp)) (fun h => by cases h) fun _ => x_next ⟨_, _, _, _, _, _, _, _, rfl⟩
  · rintro e ⟨a1, a2, a3, a4, a6, a7, a8, a9, rfl⟩
    exact x_ret (e1 := [.val (.scr (ns.map D.int)), a1, a2, a3, a4, .any, a6, a7, a8, a9]) (d := .bl true) ev_bl rfl

/-! ### the end -/
def spLaw (K : PySem.W.Frag) : Sp := fun vs H Q _ => ∃ (a : Addr) (ns : List Int), vs = [.ref a] ∧ SqL K H a (ns.map V.int) ∧ ns.length ≤ 63 ∧ ∀ H1, Q (.bl true) H1
theorem law_imp {K : PySem.W.Frag} : ∀ (vs : List V) (H : Hp) (Q : VK) (E : XK), spLaw K vs H Q E → SpG K (PV p_law) vs H Q E := fun vs H Q E ⟨a, ns, e, h, hl, k⟩ => by
  subst e
  refine ⟨H, [.val (.scr (ns.map D.int))], .val (.bl true), [.val (.scr (ns.map D.int))], Ex.refl H, ⟨rfl, fun i d hi => ?_, fun i o hi => ?_, fun i j o u a hi => ?_⟩, ⟨[.scr (ns.map D.int)], .bl true, rfl, rfl, rfl, ns, rfl, hl, rfl⟩, fun v F' H' ce => ?_⟩
  · match i, hi with
    | 0, hi => cases hi; exact ⟨_, rfl, .scr h RepL.of_ints⟩
  · match i, hi with
    | 0, hi => cases hi
  · match i, hi with
    | 0, hi => cases hi
  · have := ce.ret
    cases this
    exact k H'
theorem all_mk {l : PySem.W.OpenLaw} {w : World} {K : PySem.W.Frag} {h : Heap} {mg : Str → Option Value} {fa f0 f1 f2 f3 f4 f5 f6 f7 f8 f9 f10 f11 f12 f13 f14 f15 f16 f17 f18 : Addr} (X : K.In h) (G : h.Ns mainGlobals mg) (hfa : mg "law" = some (.ref fa))
    {od0 an0 od1 an1 od2 an2 od3 an3 od4 an4 od5 an5 od6 an6 od7 an7 od8 an8 od9 an9 od10 an10 od11 an11 od12 an12 od13 an13 od14 an14 od15 an15 od16 an16 od17 an17 od18 an18 : Option Addr} {sl0 sl1 sl2 sl3 sl4 sl5 sl6 sl7 sl8 sl9 sl10 sl11 sl12 sl13 sl14 sl15 sl16 sl17 sl18 : Array (Option Value)} {oc0 kV0 dc0 pm0 cd0 ct0 oc1 kV1 dc1 pm1 cd1 ct1 oc2 kV2 dc2 pm2 cd2 ct2 oc3 kV3 dc3 pm3 cd3 ct3 oc4 kV4 dc4 pm4 cd4 ct4 oc5 kV5 dc5 pm5 cd5 ct5 oc6 kV6 dc6 pm6 cd6 ct6 oc7 kV7 dc7 pm7 cd7 ct7 oc8 kV8 dc8 pm8 cd8 ct8 oc9 kV9 dc9 pm9 cd9 ct9 oc10 kV10 dc10 pm10 cd10 ct10 oc11 kV11 dc11 pm11 cd11 ct11 oc12 kV12 dc12 pm12 cd12 ct12 oc13 kV13 dc13 pm13 cd13 ct13 oc14 kV14 dc14 pm14 cd14 ct14 oc15 kV15 dc15 pm15 cd15 ct15 oc16 kV16 dc16 pm16 cd16 ct16 oc17 kV17 dc17 pm17 cd17 ct17 oc18 kV18 dc18 pm18 cd18 ct18 : Value}
    {ca_NoBits : Addr} (g_NoBits : PySem.W.nsIn K mainGlobals "NoBits" = some (some (.ref ca_NoBits))) {ca_NoBook : Addr} (g_NoBook : PySem.W.nsIn K mainGlobals "NoBook" = some (some (.ref ca_NoBook))) {ca_NoCode : Addr} (g_NoCode : PySem.W.nsIn K mainGlobals "NoCode" = some (some (.ref ca_NoCode))) {ca_NoData : Addr} (g_NoData : PySem.W.nsIn K mainGlobals "NoData" = some (some (.ref ca_NoData))) {ca_NoDeed : Addr} (g_NoDeed : PySem.W.nsIn K mainGlobals "NoDeed" = some (some (.ref ca_NoDeed))) {ca_NoNumber : Addr} (g_NoNumber : PySem.W.nsIn K mainGlobals "NoNumber" = some (some (.ref ca_NoNumber))) {ca_NoPacket : Addr} (g_NoPacket : PySem.W.nsIn K mainGlobals "NoPacket" = some (some (.ref ca_NoPacket))) {ca_NoPlace : Addr} (g_NoPlace : PySem.W.nsIn K mainGlobals "NoPlace" = some (some (.ref ca_NoPlace))) {ca_NoPort : Addr} (g_NoPort : PySem.W.nsIn K mainGlobals "NoPort" = some (some (.ref ca_NoPort))) {ca_NoSegment : Addr} (g_NoSegment : PySem.W.nsIn K mainGlobals "NoSegment" = some (some (.ref ca_NoSegment))) {ca_NoSize : Addr} (g_NoSize : PySem.W.nsIn K mainGlobals "NoSize" = some (some (.ref ca_NoSize))) {ca_NoTable : Addr} (g_NoTable : PySem.W.nsIn K mainGlobals "NoTable" = some (some (.ref ca_NoTable))) {ca_NoTalk : Addr} (g_NoTalk : PySem.W.nsIn K mainGlobals "NoTalk" = some (some (.ref ca_NoTalk))) {ca_NoText : Addr} (g_NoText : PySem.W.nsIn K mainGlobals "NoText" = some (some (.ref ca_NoText))) {ca_NoTick : Addr} (g_NoTick : PySem.W.nsIn K mainGlobals "NoTick" = some (some (.ref ca_NoTick))) {ca_Packet : Addr} (g_Packet : PySem.W.nsIn K mainGlobals "Packet" = some (some (.ref ca_Packet))) {ca_WireError : Addr} (g_WireError : PySem.W.nsIn K mainGlobals "WireError" = some (some (.ref ca_WireError)))
    (a0 : PySem.W.nsIn K mainGlobals "is_number" = some (some (.ref f0))) (l0 : K.lookup f0 = some ⟨oc0, od0, .func (PySem.W.fnOf "is_number" "is_number" (defArgs s_is_number) (defBody s_is_number) (defScope s_is_number) .none kV0 dc0 pm0 an0 cd0 ct0), sl0⟩) (c0 : PySem.W.codeIn K cd0 "is_number" = true) (k0 : PySem.W.keepIn K (.ref f0) = true)
    (a1 : PySem.W.nsIn K mainGlobals "are_bytes" = some (some (.ref f1))) (l1 : K.lookup f1 = some ⟨oc1, od1, .func (PySem.W.fnOf "are_bytes" "are_bytes" (defArgs s_are_bytes) (defBody s_are_bytes) (defScope s_are_bytes) .none kV1 dc1 pm1 an1 cd1 ct1), sl1⟩) (c1 : PySem.W.codeIn K cd1 "are_bytes" = true) (k1 : PySem.W.keepIn K (.ref f1) = true)
    (a2 : PySem.W.nsIn K mainGlobals "of_two" = some (some (.ref f2))) (l2 : K.lookup f2 = some ⟨oc2, od2, .func (PySem.W.fnOf "of_two" "of_two" (defArgs s_of_two) (defBody s_of_two) (defScope s_of_two) .none kV2 dc2 pm2 an2 cd2 ct2), sl2⟩) (c2 : PySem.W.codeIn K cd2 "of_two" = true) (k2 : PySem.W.keepIn K (.ref f2) = true)
    (a3 : PySem.W.nsIn K mainGlobals "sum_of" = some (some (.ref f3))) (l3 : K.lookup f3 = some ⟨oc3, od3, .func (PySem.W.fnOf "sum_of" "sum_of" (defArgs s_sum_of) (defBody s_sum_of) (defScope s_sum_of) .none kV3 dc3 pm3 an3 cd3 ct3), sl3⟩) (c3 : PySem.W.codeIn K cd3 "sum_of" = true) (k3 : PySem.W.keepIn K (.ref f3) = true)
    (a4 : PySem.W.findIn K (.ref ca_Packet) "__init__" = some (some (.ref f4))) (i4 : PySem.W.isFn K (.ref f4) = true) (l4 : K.lookup f4 = some ⟨oc4, od4, .func (PySem.W.fnOf "__init__" "Packet.__init__" (defArgs s_Packet___init__) (defBody s_Packet___init__) (defScope s_Packet___init__) .none kV4 dc4 pm4 an4 cd4 ct4), sl4⟩) (c4 : PySem.W.codeIn K cd4 "Packet.__init__" = true) (k4 : PySem.W.keepIn K (.ref f4) = true)
    (a5 : PySem.W.nsIn K mainGlobals "packet_by" = some (some (.ref f5))) (l5 : K.lookup f5 = some ⟨oc5, od5, .func (PySem.W.fnOf "packet_by" "packet_by" (defArgs s_packet_by) (defBody s_packet_by) (defScope s_packet_by) .none kV5 dc5 pm5 an5 cd5 ct5), sl5⟩) (c5 : PySem.W.codeIn K cd5 "packet_by" = true) (k5 : PySem.W.keepIn K (.ref f5) = true)
    (a6 : PySem.W.nsIn K mainGlobals "_law_cell_at" = some (some (.ref f6))) (l6 : K.lookup f6 = some ⟨oc6, od6, .func (PySem.W.fnOf "_law_cell_at" "_law_cell_at" (defArgs s_l_cell_at) (defBody s_l_cell_at) (defScope s_l_cell_at) .none kV6 dc6 pm6 an6 cd6 ct6), sl6⟩) (c6 : PySem.W.codeIn K cd6 "_law_cell_at" = true) (k6 : PySem.W.keepIn K (.ref f6) = true)
    (a7 : PySem.W.nsIn K mainGlobals "_law_mixed" = some (some (.ref f7))) (l7 : K.lookup f7 = some ⟨oc7, od7, .func (PySem.W.fnOf "_law_mixed" "_law_mixed" (defArgs s_l_mixed) (defBody s_l_mixed) (defScope s_l_mixed) .none kV7 dc7 pm7 an7 cd7 ct7), sl7⟩) (c7 : PySem.W.codeIn K cd7 "_law_mixed" = true) (k7 : PySem.W.keepIn K (.ref f7) = true)
    (a8 : PySem.W.nsIn K mainGlobals "_law_row" = some (some (.ref f8))) (l8 : K.lookup f8 = some ⟨oc8, od8, .func (PySem.W.fnOf "_law_row" "_law_row" (defArgs s_l_row) (defBody s_l_row) (defScope s_l_row) .none kV8 dc8 pm8 an8 cd8 ct8), sl8⟩) (c8 : PySem.W.codeIn K cd8 "_law_row" = true) (k8 : PySem.W.keepIn K (.ref f8) = true)
    (a9 : PySem.W.nsIn K mainGlobals "_law_class" = some (some (.ref f9))) (l9 : K.lookup f9 = some ⟨oc9, od9, .func (PySem.W.fnOf "_law_class" "_law_class" (defArgs s_l_class) (defBody s_l_class) (defScope s_l_class) .none kV9 dc9 pm9 an9 cd9 ct9), sl9⟩) (c9 : PySem.W.codeIn K cd9 "_law_class" = true) (k9 : PySem.W.keepIn K (.ref f9) = true)
    (a10 : PySem.W.nsIn K mainGlobals "_law_fields" = some (some (.ref f10))) (l10 : K.lookup f10 = some ⟨oc10, od10, .func (PySem.W.fnOf "_law_fields" "_law_fields" (defArgs s_l_fields) (defBody s_l_fields) (defScope s_l_fields) .none kV10 dc10 pm10 an10 cd10 ct10), sl10⟩) (c10 : PySem.W.codeIn K cd10 "_law_fields" = true) (k10 : PySem.W.keepIn K (.ref f10) = true)
    (a11 : PySem.W.nsIn K mainGlobals "_law_sum" = some (some (.ref f11))) (l11 : K.lookup f11 = some ⟨oc11, od11, .func (PySem.W.fnOf "_law_sum" "_law_sum" (defArgs s_l_sum) (defBody s_l_sum) (defScope s_l_sum) .none kV11 dc11 pm11 an11 cd11 ct11), sl11⟩) (c11 : PySem.W.codeIn K cd11 "_law_sum" = true) (k11 : PySem.W.keepIn K (.ref f11) = true)
    (a12 : PySem.W.nsIn K mainGlobals "_law_bytes" = some (some (.ref f12))) (l12 : K.lookup f12 = some ⟨oc12, od12, .func (PySem.W.fnOf "_law_bytes" "_law_bytes" (defArgs s_l_bytes) (defBody s_l_bytes) (defScope s_l_bytes) .none kV12 dc12 pm12 an12 cd12 ct12), sl12⟩) (c12 : PySem.W.codeIn K cd12 "_law_bytes" = true) (k12 : PySem.W.keepIn K (.ref f12) = true)
    (a13 : PySem.W.nsIn K mainGlobals "_law_told" = some (some (.ref f13))) (l13 : K.lookup f13 = some ⟨oc13, od13, .func (PySem.W.fnOf "_law_told" "_law_told" (defArgs s_l_told) (defBody s_l_told) (defScope s_l_told) .none kV13 dc13 pm13 an13 cd13 ct13), sl13⟩) (c13 : PySem.W.codeIn K cd13 "_law_told" = true) (k13 : PySem.W.keepIn K (.ref f13) = true)
    (a14 : PySem.W.nsIn K mainGlobals "_law_found" = some (some (.ref f14))) (l14 : K.lookup f14 = some ⟨oc14, od14, .func (PySem.W.fnOf "_law_found" "_law_found" (defArgs s_l_found) (defBody s_l_found) (defScope s_l_found) .none kV14 dc14 pm14 an14 cd14 ct14), sl14⟩) (c14 : PySem.W.codeIn K cd14 "_law_found" = true) (k14 : PySem.W.keepIn K (.ref f14) = true)
    (a15 : PySem.W.nsIn K mainGlobals "_law_all_ones" = some (some (.ref f15))) (l15 : K.lookup f15 = some ⟨oc15, od15, .func (PySem.W.fnOf "_law_all_ones" "_law_all_ones" (defArgs s_l_all_ones) (defBody s_l_all_ones) (defScope s_l_all_ones) .none kV15 dc15 pm15 an15 cd15 ct15), sl15⟩) (c15 : PySem.W.codeIn K cd15 "_law_all_ones" = true) (k15 : PySem.W.keepIn K (.ref f15) = true)
    (a16 : PySem.W.nsIn K mainGlobals "_law_read" = some (some (.ref f16))) (l16 : K.lookup f16 = some ⟨oc16, od16, .func (PySem.W.fnOf "_law_read" "_law_read" (defArgs s_l_read) (defBody s_l_read) (defScope s_l_read) .none kV16 dc16 pm16 an16 cd16 ct16), sl16⟩) (c16 : PySem.W.codeIn K cd16 "_law_read" = true) (k16 : PySem.W.keepIn K (.ref f16) = true)
    (a17 : PySem.W.nsIn K mainGlobals "_law_changed" = some (some (.ref f17))) (l17 : K.lookup f17 = some ⟨oc17, od17, .func (PySem.W.fnOf "_law_changed" "_law_changed" (defArgs s_l_changed) (defBody s_l_changed) (defScope s_l_changed) .none kV17 dc17 pm17 an17 cd17 ct17), sl17⟩) (c17 : PySem.W.codeIn K cd17 "_law_changed" = true) (k17 : PySem.W.keepIn K (.ref f17) = true)
    (a18 : PySem.W.nsIn K mainGlobals "law" = some (some (.ref f18))) (l18 : K.lookup f18 = some ⟨oc18, od18, .func (PySem.W.fnOf "law" "law" (defArgs s_law) (defBody s_law) (defScope s_law) .none kV18 dc18 pm18 an18 cd18 ct18), sl18⟩) (c18 : PySem.W.codeIn K cd18 "law" = true) (k18 : PySem.W.keepIn K (.ref f18) = true)
    (z_ValueError : PySem.W.nsIn K mainGlobals "ValueError" = some none) (z_abs : PySem.W.nsIn K mainGlobals "abs" = some none) (z_all : PySem.W.nsIn K mainGlobals "all" = some none) (z_bool : PySem.W.nsIn K mainGlobals "bool" = some none) (z_int : PySem.W.nsIn K mainGlobals "int" = some none) (z_isinstance : PySem.W.nsIn K mainGlobals "isinstance" = some none) (z_len : PySem.W.nsIn K mainGlobals "len" = some none) (z_list : PySem.W.nsIn K mainGlobals "list" = some none) (z_max : PySem.W.nsIn K mainGlobals "max" = some none) (z_min : PySem.W.nsIn K mainGlobals "min" = some none) (z_range : PySem.W.nsIn K mainGlobals "range" = some none) (z_repr : PySem.W.nsIn K mainGlobals "repr" = some none) (z_tuple : PySem.W.nsIn K mainGlobals "tuple" = some none) {t_HEAD : Tok} (y_HEAD : PySem.W.nsIn K mainGlobals "HEAD" = some (some (.int 14 t_HEAD))) {t_MANY_AT : Tok} (y_MANY_AT : PySem.W.nsIn K mainGlobals "MANY_AT" = some (some (.int 10 t_MANY_AT))) {t_MORE_AT : Tok} (y_MORE_AT : PySem.W.nsIn K mainGlobals "MORE_AT" = some (some (.int 8 t_MORE_AT))) {t_MOST_BYTE : Tok} (y_MOST_BYTE : PySem.W.nsIn K mainGlobals "MOST_BYTE" = some (some (.int 255 t_MOST_BYTE))) {t_MOST_TOGETHER : Tok} (y_MOST_TOGETHER : PySem.W.nsIn K mainGlobals "MOST_TOGETHER" = some (some (.int 1000 t_MOST_TOGETHER))) {t_MOST_WORD : Tok} (y_MOST_WORD : PySem.W.nsIn K mainGlobals "MOST_WORD" = some (some (.int 65535 t_MOST_WORD))) {t_NOUGHT_AT : Tok} (y_NOUGHT_AT : PySem.W.nsIn K mainGlobals "NOUGHT_AT" = some (some (.int 9 t_NOUGHT_AT))) {t_SUM_AT : Tok} (y_SUM_AT : PySem.W.nsIn K mainGlobals "SUM_AT" = some (some (.int 12 t_SUM_AT)))   (e_NoPacket : PySem.W.excIn K ca_NoPacket [.type "ValueError", .type "Exception", .type "BaseException", .type "object"] "ValueError.__new__" = true) (k_NoPacket : PySem.W.keepIn K (.ref ca_NoPacket) = true) (b_NoPacket : PySem.W.subIn K (.ref ca_NoPacket) (.type "BaseException") = some true) (t_NoPacket : PySem.W.typeIn K (.ref ca_NoPacket) = some (.type "type")) (m_NoPacket : PySem.W.exmOne K (.ref ca_NoPacket) (.ref ca_WireError) = some true) (x_NoPacket : ExcC K ca_NoPacket) (v_NoPacket : PySem.W.kitOne K (.ref ca_NoPacket) (.type "ValueError") = some true) (i_NoPacket_NoBits : PySem.W.kitOne K (.ref ca_NoPacket) (.ref ca_NoBits) = some false) (i_NoPacket_NoBook : PySem.W.kitOne K (.ref ca_NoPacket) (.ref ca_NoBook) = some false) (i_NoPacket_NoCode : PySem.W.kitOne K (.ref ca_NoPacket) (.ref ca_NoCode) = some false) (i_NoPacket_NoData : PySem.W.kitOne K (.ref ca_NoPacket) (.ref ca_NoData) = some false) (i_NoPacket_NoDeed : PySem.W.kitOne K (.ref ca_NoPacket) (.ref ca_NoDeed) = some false) (i_NoPacket_NoNumber : PySem.W.kitOne K (.ref ca_NoPacket) (.ref ca_NoNumber) = some false) (i_NoPacket_NoPacket : PySem.W.kitOne K (.ref ca_NoPacket) (.ref ca_NoPacket) = some true) (i_NoPacket_NoPlace : PySem.W.kitOne K (.ref ca_NoPacket) (.ref ca_NoPlace) = some false) (i_NoPacket_NoPort : PySem.W.kitOne K (.ref ca_NoPacket) (.ref ca_NoPort) = some false) (i_NoPacket_NoSegment : PySem.W.kitOne K (.ref ca_NoPacket) (.ref ca_NoSegment) = some false) (i_NoPacket_NoSize : PySem.W.kitOne K (.ref ca_NoPacket) (.ref ca_NoSize) = some false) (i_NoPacket_NoTable : PySem.W.kitOne K (.ref ca_NoPacket) (.ref ca_NoTable) = some false) (i_NoPacket_NoTalk : PySem.W.kitOne K (.ref ca_NoPacket) (.ref ca_NoTalk) = some false) (i_NoPacket_NoText : PySem.W.kitOne K (.ref ca_NoPacket) (.ref ca_NoText) = some false) (i_NoPacket_NoTick : PySem.W.kitOne K (.ref ca_NoPacket) (.ref ca_NoTick) = some false) (cl_Packet : Cls K ca_Packet) (mk_Packet : PySem.W.makesIn K ca_Packet = true) (kc_Packet : PySem.W.keepIn K (.ref ca_Packet) = true) (n_Packet_data : PySem.W.findIn K (.ref ca_Packet) "data" = some none) (n_Packet_first : PySem.W.findIn K (.ref ca_Packet) "first" = some none) (n_Packet_kind : PySem.W.findIn K (.ref ca_Packet) "kind" = some none) (n_Packet_life : PySem.W.findIn K (.ref ca_Packet) "life" = some none) (n_Packet_more : PySem.W.findIn K (.ref ca_Packet) "more" = some none) (n_Packet_name : PySem.W.findIn K (.ref ca_Packet) "name" = some none) (n_Packet_source : PySem.W.findIn K (.ref ca_Packet) "source" = some none) (n_Packet_target : PySem.W.findIn K (.ref ca_Packet) "target" = some none) :
    ∃ fd : FuncData, (∀ (s : Shared) (v : Value), BindsTo s fd ⟨[v], []⟩ [("_law_script", v)]) ∧ ∀ base : Heap, K.In base → base.Ns mainGlobals mg → RunC l.prog w K mg base CX0 fa fd ["_law_script"] (spLaw K) := by
  have e := hfa.symm.trans (PySem.W.mg_of X G a18)
  cases e
  have T : Txt ⟨ca_NoBits, ca_NoBook, ca_NoCode, ca_NoData, ca_NoDeed, ca_NoNumber, ca_NoPacket, ca_NoPlace, ca_NoPort, ca_NoSegment, ca_NoSize, ca_NoTable, ca_NoTalk, ca_NoText, ca_NoTick, ca_Packet, ca_WireError⟩ K mg := ⟨PySem.W.mg_of X G g_NoBits, PySem.W.mg_of X G g_NoBook, PySem.W.mg_of X G g_NoCode, PySem.W.mg_of X G g_NoData, PySem.W.mg_of X G g_NoDeed, PySem.W.mg_of X G g_NoNumber, PySem.W.mg_of X G g_NoPacket, PySem.W.mg_of X G g_NoPlace, PySem.W.mg_of X G g_NoPort, PySem.W.mg_of X G g_NoSegment, PySem.W.mg_of X G g_NoSize, PySem.W.mg_of X G g_NoTable, PySem.W.mg_of X G g_NoTalk, PySem.W.mg_of X G g_NoText, PySem.W.mg_of X G g_NoTick, PySem.W.mg_of X G g_Packet, PySem.W.mg_of X G g_WireError, e_NoPacket, k_NoPacket, b_NoPacket, t_NoPacket, m_NoPacket, x_NoPacket, v_NoPacket, i_NoPacket_NoBits, i_NoPacket_NoBook, i_NoPacket_NoCode, i_NoPacket_NoData, i_NoPacket_NoDeed, i_NoPacket_NoNumber, i_NoPacket_NoPacket, i_NoPacket_NoPlace, i_NoPacket_NoPort, i_NoPacket_NoSegment, i_NoPacket_NoSize, i_NoPacket_NoTable, i_NoPacket_NoTalk, i_NoPacket_NoText, i_NoPacket_NoTick, cl_Packet, mk_Packet, kc_Packet, n_Packet_data, n_Packet_first, n_Packet_kind, n_Packet_life, n_Packet_more, n_Packet_name, n_Packet_source, n_Packet_target, PySem.W.mg_none_of X G z_ValueError, PySem.W.mg_none_of X G z_abs, PySem.W.mg_none_of X G z_all, PySem.W.mg_none_of X G z_bool, PySem.W.mg_none_of X G z_int, PySem.W.mg_none_of X G z_isinstance, PySem.W.mg_none_of X G z_len, PySem.W.mg_none_of X G z_list, PySem.W.mg_none_of X G z_max, PySem.W.mg_none_of X G z_min, PySem.W.mg_none_of X G z_range, PySem.W.mg_none_of X G z_repr, PySem.W.mg_none_of X G z_tuple, ⟨_, PySem.W.mg_of X G y_HEAD⟩, ⟨_, PySem.W.mg_of X G y_MANY_AT⟩, ⟨_, PySem.W.mg_of X G y_MORE_AT⟩, ⟨_, PySem.W.mg_of X G y_MOST_BYTE⟩, ⟨_, PySem.W.mg_of X G y_MOST_TOGETHER⟩, ⟨_, PySem.W.mg_of X G y_MOST_WORD⟩, ⟨_, PySem.W.mg_of X G y_NOUGHT_AT⟩, ⟨_, PySem.W.mg_of X G y_SUM_AT⟩⟩
  have F0 := fun_mk (st := s_is_number) l0 c0 k0
  have b0 := F0.binds (ps := ["thing", "most"]) fun _ _ _ _ _ _ us hl => match us, hl with | [_, _], _ => rfl
  have F1 := fun_mk (st := s_are_bytes) l1 c1 k1
  have b1 := F1.binds (ps := ["thing", "most"]) fun _ _ _ _ _ _ us hl => match us, hl with | [_, _], _ => rfl
  have F2 := fun_mk (st := s_of_two) l2 c2 k2
  have b2 := F2.binds (ps := ["row", "place"]) fun _ _ _ _ _ _ us hl => match us, hl with | [_, _], _ => rfl
  have F3 := fun_mk (st := s_sum_of) l3 c3 k3
  have b3 := F3.binds (ps := ["head"]) fun _ _ _ _ _ _ us hl => match us, hl with | [_], _ => rfl
  have F4 := fun_mk (st := s_Packet___init__) l4 c4 k4
  have b4 := F4.binds (ps := ["self", "source", "target", "kind", "life", "name", "first", "more", "data"]) fun _ _ _ _ _ _ us hl => match us, hl with | [_, _, _, _, _, _, _, _, _], _ => rfl
  have F5 := fun_mk (st := s_packet_by) l5 c5 k5
  have b5 := F5.binds (ps := ["thing"]) fun _ _ _ _ _ _ us hl => match us, hl with | [_], _ => rfl
  have F6 := fun_mk (st := s_l_cell_at) l6 c6 k6
  have b6 := F6.binds (ps := ["_law_script", "_law_k"]) fun _ _ _ _ _ _ us hl => match us, hl with | [_, _], _ => rfl
  have F7 := fun_mk (st := s_l_mixed) l7 c7 k7
  have b7 := F7.binds (ps := ["_law_cell", "_law_k"]) fun _ _ _ _ _ _ us hl => match us, hl with | [_, _], _ => rfl
  have F8 := fun_mk (st := s_l_row) l8 c8 k8
  have b8 := F8.binds (ps := ["_law_cell", "_law_by_digits", "_law_size", "_law_many"]) fun _ _ _ _ _ _ us hl => match us, hl with | [_, _, _, _], _ => rfl
  have F9 := fun_mk (st := s_l_class) l9 c9 k9
  have b9 := F9.binds (ps := ["_law_e"]) fun _ _ _ _ _ _ us hl => match us, hl with | [_], _ => rfl
  have F10 := fun_mk (st := s_l_fields) l10 c10 k10
  have b10 := F10.binds (ps := ["_law_cell", "_law_control", "_law_more"]) fun _ _ _ _ _ _ us hl => match us, hl with | [_, _, _], _ => rfl
  have F11 := fun_mk (st := s_l_sum) l11 c11 k11
  have b11 := F11.binds (ps := ["_law_head"]) fun _ _ _ _ _ _ us hl => match us, hl with | [_], _ => rfl
  have F12 := fun_mk (st := s_l_bytes) l12 c12 k12
  have b12 := F12.binds (ps := ["_law_fields_here"]) fun _ _ _ _ _ _ us hl => match us, hl with | [_], _ => rfl
  have F13 := fun_mk (st := s_l_told) l13 c13 k13
  have b13 := F13.binds (ps := ["_law_packet"]) fun _ _ _ _ _ _ us hl => match us, hl with | [_], _ => rfl
  have F14 := fun_mk (st := s_l_found) l14 c14 k14
  have b14 := F14.binds (ps := ["_law_thing"]) fun _ _ _ _ _ _ us hl => match us, hl with | [_], _ => rfl
  have F15 := fun_mk (st := s_l_all_ones) l15 c15 k15
  have b15 := F15.binds (ps := ["_law_fields_here"]) fun _ _ _ _ _ _ us hl => match us, hl with | [_], _ => rfl
  have F16 := fun_mk (st := s_l_read) l16 c16 k16
  have b16 := F16.binds (ps := ["_law_thing"]) fun _ _ _ _ _ _ us hl => match us, hl with | [_], _ => rfl
  have F17 := fun_mk (st := s_l_changed) l17 c17 k17
  have b17 := F17.binds (ps := ["_law_row_here", "_law_control", "_law_spoil"]) fun _ _ _ _ _ _ us hl => match us, hl with | [_, _, _], _ => rfl
  have F18 := fun_mk (st := s_law) l18 c18 k18
  have b18 := F18.binds (ps := ["_law_script"]) fun _ _ _ _ _ _ us hl => match us, hl with | [_], _ => rfl
  refine ⟨PySem.W.fnOf "law" "law" (defArgs s_law) (defBody s_law) (defScope s_law) .none kV18 dc18 pm18 an18 cd18 ct18, fun s v => .of_eq rfl, fun base _ _ => ?_⟩
  have C_is_number := Df.of (ok_is_number (P := l.prog) (w := w) (mg := mg) (base := base) T F0 ) F0 (PySem.W.mg_of X G a0) b0
  have C_are_bytes := Df.of (ok_are_bytes (P := l.prog) (w := w) (mg := mg) (base := base) T F1 C_is_number) F1 (PySem.W.mg_of X G a1) b1
  have C_of_two := Df.of (ok_of_two (P := l.prog) (w := w) (mg := mg) (base := base) T F2 ) F2 (PySem.W.mg_of X G a2) b2
  have C_sum_of := Df.of (ok_sum_of (P := l.prog) (w := w) (mg := mg) (base := base) T F3 C_of_two) F3 (PySem.W.mg_of X G a3) b3
  have M_Packet := Mx.of ⟨mk_Packet, a4, i4, kc_Packet⟩ (ok_Packet___init__ (P := l.prog) (w := w) (mg := mg) (base := base) T F4 C_are_bytes C_is_number) (PySem.W.mg_of X G g_Packet) b4
  have C_packet_by := Dx.of (ok_packet_by (P := l.prog) (w := w) (mg := mg) (base := base) T F5 M_Packet C_are_bytes C_of_two C_sum_of) F5 (PySem.W.mg_of X G a5) b5
  have C_l_cell_at := Df.of (ok_l_cell_at (P := l.prog) (w := w) (mg := mg) (base := base) T F6 ) F6 (PySem.W.mg_of X G a6) b6
  have C_l_mixed := Df.of (ok_l_mixed (P := l.prog) (w := w) (mg := mg) (base := base) T F7 ) F7 (PySem.W.mg_of X G a7) b7
  have C_l_row := Df.of (ok_l_row (P := l.prog) (w := w) (mg := mg) (base := base) T F8 C_l_mixed) F8 (PySem.W.mg_of X G a8) b8
  have C_l_class := Df.of (ok_l_class (P := l.prog) (w := w) (mg := mg) (base := base) T F9 ) F9 (PySem.W.mg_of X G a9) b9
  have C_l_fields := Df.of (ok_l_fields (P := l.prog) (w := w) (mg := mg) (base := base) T F10 C_l_row) F10 (PySem.W.mg_of X G a10) b10
  have C_l_sum := Df.of (ok_l_sum (P := l.prog) (w := w) (mg := mg) (base := base) T F11 ) F11 (PySem.W.mg_of X G a11) b11
  have C_l_bytes := Df.of (ok_l_bytes (P := l.prog) (w := w) (mg := mg) (base := base) T F12 C_l_sum) F12 (PySem.W.mg_of X G a12) b12
  have C_l_told := Df.of (ok_l_told (P := l.prog) (w := w) (mg := mg) (base := base) T F13 ) F13 (PySem.W.mg_of X G a13) b13
  have C_l_found := Df.of (ok_l_found (P := l.prog) (w := w) (mg := mg) (base := base) T F14 C_l_class C_l_told C_packet_by) F14 (PySem.W.mg_of X G a14) b14
  have C_l_all_ones := Df.of (ok_l_all_ones (P := l.prog) (w := w) (mg := mg) (base := base) T F15 C_l_bytes) F15 (PySem.W.mg_of X G a15) b15
  have C_l_read := Df.of (ok_l_read (P := l.prog) (w := w) (mg := mg) (base := base) T F16 C_l_sum) F16 (PySem.W.mg_of X G a16) b16
  have C_l_changed := Df.of (ok_l_changed (P := l.prog) (w := w) (mg := mg) (base := base) T F17 C_l_sum) F17 (PySem.W.mg_of X G a17) b17
  exact (ok_law T F18 C_l_all_ones C_l_bytes C_l_cell_at C_l_changed C_l_fields C_l_found C_l_mixed C_l_read).imp law_imp
theorem walk {l : PySem.W.OpenLaw} {q : Program} {loose : List Str} {XP : (Str → Option Value) → Heap → Prop} {YP : World → Heap → Prop} {d : DefRec} {K : Params → PySem.W.Frag} (hn : l.most = some 63) (hdf : d.params.defaults = [])
    (hY : ∀ (w : World) (h : Heap), YP w h → (K w.params).In h)
    (F : ∀ (w : World) (mg : Str → Option Value) (fa : Addr) (h : Heap), (K w.params).In h → h.Ns mainGlobals mg → mg d.name = some (.ref fa) →
      ∃ fd : FuncData, (∀ (s : Shared) (u : Value), BindsTo s fd ⟨[u], []⟩ [("_law_script", u)]) ∧ ∀ base : Heap, (K w.params).In base → base.Ns mainGlobals mg → RunC l.prog w (K w.params) mg base CX0 fa fd ["_law_script"] (spLaw (K w.params))) :
    PySem.W.WalkO q loose XP YP l.row.toRowW d [] (fun f vs => PySem.call f vs) :=
  L2.walk_top (n := 63) (x := "_law_script") (CX := fun _ => CX0) (sp := fun w => spLaw (K w.params)) hn (by decide) hdf hY F (fun _ _ a ns hl _ hS => ⟨a, ns, rfl, hS, hl, fun _ => rfl⟩) fun _ _ _ _ _ z => z
end Kk
open PySem PySem.W PyProof.Rows in
set_option maxRecDepth 100000 in
set_option maxHeartbeats 0 in
theorem PySem.Challenge.cw_surewire_k32_no_packet_bytes_holds : PySem.Challenge.rw_surewire_k32_no_packet_bytes.Holds := by
  w_on; o_law; k_head; (case hw => w_witness2)
  k_fill
  refine Kk.walk (l := PySem.Challenge.rw_surewire_k32_no_packet_bytes) rfl rfl (fun w h Y => PySem.W.kIn_of Y) ?F
  case F =>
    intro w mg fa h KX G hmg
    refine' Kk.all_mk KX G hmg ?g_NoBits ?g_NoBook ?g_NoCode ?g_NoData ?g_NoDeed ?g_NoNumber ?g_NoPacket ?g_NoPlace ?g_NoPort ?g_NoSegment ?g_NoSize ?g_NoTable ?g_NoTalk ?g_NoText ?g_NoTick ?g_Packet ?g_WireError ?a0 ?l0 ?c0 ?k0 ?a1 ?l1 ?c1 ?k1 ?a2 ?l2 ?c2 ?k2 ?a3 ?l3 ?c3 ?k3 ?a4 ?i4 ?l4 ?c4 ?k4 ?a5 ?l5 ?c5 ?k5 ?a6 ?l6 ?c6 ?k6 ?a7 ?l7 ?c7 ?k7 ?a8 ?l8 ?c8 ?k8 ?a9 ?l9 ?c9 ?k9 ?a10 ?l10 ?c10 ?k10 ?a11 ?l11 ?c11 ?k11 ?a12 ?l12 ?c12 ?k12 ?a13 ?l13 ?c13 ?k13 ?a14 ?l14 ?c14 ?k14 ?a15 ?l15 ?c15 ?k15 ?a16 ?l16 ?c16 ?k16 ?a17 ?l17 ?c17 ?k17 ?a18 ?l18 ?c18 ?k18 ?z_ValueError ?z_abs ?z_all ?z_bool ?z_int ?z_isinstance ?z_len ?z_list ?z_max ?z_min ?z_range ?z_repr ?z_tuple ?y_HEAD ?y_MANY_AT ?y_MORE_AT ?y_MOST_BYTE ?y_MOST_TOGETHER ?y_MOST_WORD ?y_NOUGHT_AT ?y_SUM_AT ?e_NoPacket ?k_NoPacket ?b_NoPacket ?t_NoPacket ?m_NoPacket ?x_NoPacket ?v_NoPacket ?i_NoPacket_NoBits ?i_NoPacket_NoBook ?i_NoPacket_NoCode ?i_NoPacket_NoData ?i_NoPacket_NoDeed ?i_NoPacket_NoNumber ?i_NoPacket_NoPacket ?i_NoPacket_NoPlace ?i_NoPacket_NoPort ?i_NoPacket_NoSegment ?i_NoPacket_NoSize ?i_NoPacket_NoTable ?i_NoPacket_NoTalk ?i_NoPacket_NoText ?i_NoPacket_NoTick ?cl_Packet ?mk_Packet ?kc_Packet ?n_Packet_data ?n_Packet_first ?n_Packet_kind ?n_Packet_life ?n_Packet_more ?n_Packet_name ?n_Packet_source ?n_Packet_target
    (case g_NoBits => k_is)
    (case g_NoBook => k_is)
    (case g_NoCode => k_is)
    (case g_NoData => k_is)
    (case g_NoDeed => k_is)
    (case g_NoNumber => k_is)
    (case g_NoPacket => k_is)
    (case g_NoPlace => k_is)
    (case g_NoPort => k_is)
    (case g_NoSegment => k_is)
    (case g_NoSize => k_is)
    (case g_NoTable => k_is)
    (case g_NoTalk => k_is)
    (case g_NoText => k_is)
    (case g_NoTick => k_is)
    (case g_Packet => k_is)
    (case g_WireError => k_is)
    (case a0 => k_is)
    (case l0 => k_is)
    (case c0 => k_is)
    (case k0 => k_is)
    (case a1 => k_is)
    (case l1 => k_is)
    (case c1 => k_is)
    (case k1 => k_is)
    (case a2 => k_is)
    (case l2 => k_is)
    (case c2 => k_is)
    (case k2 => k_is)
    (case a3 => k_is)
    (case l3 => k_is)
    (case c3 => k_is)
    (case k3 => k_is)
    (case a4 => k_is)
    (case i4 => k_is)
    (case l4 => k_is)
    (case c4 => k_is)
    (case k4 => k_is)
    (case a5 => k_is)
    (case l5 => k_is)
    (case c5 => k_is)
    (case k5 => k_is)
    (case a6 => k_is)
    (case l6 => k_is)
    (case c6 => k_is)
    (case k6 => k_is)
    (case a7 => k_is)
    (case l7 => k_is)
    (case c7 => k_is)
    (case k7 => k_is)
    (case a8 => k_is)
    (case l8 => k_is)
    (case c8 => k_is)
    (case k8 => k_is)
    (case a9 => k_is)
    (case l9 => k_is)
    (case c9 => k_is)
    (case k9 => k_is)
    (case a10 => k_is)
    (case l10 => k_is)
    (case c10 => k_is)
    (case k10 => k_is)
    (case a11 => k_is)
    (case l11 => k_is)
    (case c11 => k_is)
    (case k11 => k_is)
    (case a12 => k_is)
    (case l12 => k_is)
    (case c12 => k_is)
    (case k12 => k_is)
    (case a13 => k_is)
    (case l13 => k_is)
    (case c13 => k_is)
    (case k13 => k_is)
    (case a14 => k_is)
    (case l14 => k_is)
    (case c14 => k_is)
    (case k14 => k_is)
    (case a15 => k_is)
    (case l15 => k_is)
    (case c15 => k_is)
    (case k15 => k_is)
    (case a16 => k_is)
    (case l16 => k_is)
    (case c16 => k_is)
    (case k16 => k_is)
    (case a17 => k_is)
    (case l17 => k_is)
    (case c17 => k_is)
    (case k17 => k_is)
    (case a18 => k_is)
    (case l18 => k_is)
    (case c18 => k_is)
    (case k18 => k_is)
    (case z_ValueError => k_is)
    (case z_abs => k_is)
    (case z_all => k_is)
    (case z_bool => k_is)
    (case z_int => k_is)
    (case z_isinstance => k_is)
    (case z_len => k_is)
    (case z_list => k_is)
    (case z_max => k_is)
    (case z_min => k_is)
    (case z_range => k_is)
    (case z_repr => k_is)
    (case z_tuple => k_is)
    (case y_HEAD => k_is)
    (case y_MANY_AT => k_is)
    (case y_MORE_AT => k_is)
    (case y_MOST_BYTE => k_is)
    (case y_MOST_TOGETHER => k_is)
    (case y_MOST_WORD => k_is)
    (case y_NOUGHT_AT => k_is)
    (case y_SUM_AT => k_is)
    (case e_NoPacket => k_exc)
    (case k_NoPacket => k_is)
    (case b_NoPacket => k_is)
    (case t_NoPacket => k_is)
    (case m_NoPacket => exact DL.exm_mk (by k_is) (by k_is) (by k_is) (by k_is))
    (case x_NoPacket => exact ⟨by k_is, by k_is, by k_is, by k_is, by k_is, by k_is, by k_is, by k_is⟩)
    (case v_NoPacket => first | k_is | kit_is)
    (case i_NoPacket_NoBits => first | k_is | kit_is)
    (case i_NoPacket_NoBook => first | k_is | kit_is)
    (case i_NoPacket_NoCode => first | k_is | kit_is)
    (case i_NoPacket_NoData => first | k_is | kit_is)
    (case i_NoPacket_NoDeed => first | k_is | kit_is)
    (case i_NoPacket_NoNumber => first | k_is | kit_is)
    (case i_NoPacket_NoPacket => first | k_is | kit_is)
    (case i_NoPacket_NoPlace => first | k_is | kit_is)
    (case i_NoPacket_NoPort => first | k_is | kit_is)
    (case i_NoPacket_NoSegment => first | k_is | kit_is)
    (case i_NoPacket_NoSize => first | k_is | kit_is)
    (case i_NoPacket_NoTable => first | k_is | kit_is)
    (case i_NoPacket_NoTalk => first | k_is | kit_is)
    (case i_NoPacket_NoText => first | k_is | kit_is)
    (case i_NoPacket_NoTick => first | k_is | kit_is)
    (case cl_Packet => exact ⟨by k_is, by k_is, by k_is, by k_is⟩)
    (case mk_Packet => k_is)
    (case kc_Packet => k_is)
    (case n_Packet_data => k_is)
    (case n_Packet_first => k_is)
    (case n_Packet_kind => k_is)
    (case n_Packet_life => k_is)
    (case n_Packet_more => k_is)
    (case n_Packet_name => k_is)
    (case n_Packet_source => k_is)
    (case n_Packet_target => k_is)
#print axioms PySem.Challenge.cw_surewire_k32_no_packet_bytes_holds
