import PyProof.Rows.All
import Wide.All
import OpenK.AllK
import Wide.FinOn
import HandS.ForMost
import HandS.IsInst
import HandS.Style
import HandS.Flow
import HandS.Exc
import HandS.TryOnly
import HandS.ExcOwn
import HandS.WordsExc
import HandS.WideBits
import HandS.Wide
import HandS.TupAny
import HandS.Walk
import HandS.ExcIs
import HandS.RaiseMore
import HandS.TupMul
import KE.KBits
import HandS.Zip
import HandS.Deep
import HandS.More
import HandS.SetFor
import HandS.FStrTup
import HandS.Ends
import PyProof.ReprRoads
import PyProof.FitsInt
import PyProof.CallFns
import HandS.Text
import HandS.StrMore
import HandS.RevRange
import KE.KDictKeyed
import HandS.Lambda
import KE.DataEq
import HandS.Flt
import HandS.Steps
import KE.GoesEnum
import HandS.Defaults
import PyProof.StrOps2
import HandS.ReplaceList
import HandS.SortInts
import HandS.EndOwn
import KE.KNestM
import KE.DataMinMax
import KE.SortData
import HandS.SortKw
import HandS.SetKeys
import KE.KDictWalk
import HandS.DictTup
import KE.KDictPairs
import HandS.TupLe
import KE.KEqNest
import KE.KDictMeth
import PyProof.ReprBulk
import KE.KStateDown
import HandS.Head0
import HandS.Head1
import HandS.Head2
import HandS.HeadHook1
import HandS.HeadHook2
import HandS.HeadHook3
import HandS.HeadEnd
import PySem.Challenge.RW_surewire_k99_forms_of_books
set_option Elab.async false
set_option linter.all false
set_option maxRecDepth 100000
set_option maxHeartbeats 2000000
/-! ## the head by one run of the kernel: what it tells -/
namespace Hk
open PySem PySem.Spec PyProof.Rows L2 He
abbrev Fk := PySem.W.Frag
def obsK (exs : List (Fk → Bool)) (fn : List DefD) (ts : List (Str × List Str)) (K : Fk) : AlT :=
  (((exs.all fun f => f K) && fn.all fun d => d.ok K, fn.map fun d => fnW K d.at_), ts.map fun t => dicW K (ga K t.1))
def valK (fn : List DefD) (ts : List (Str × List Str)) (w : World) : AlT := (valD fn, ts.map fun t => some (keysIn w.params t.2))
def obsL (as : List Addr) (exs : List (Fk → Bool)) (fn : List DefD) (ts : List (Str × List Str)) (g : Addr → Option Obj) : AlT := obsK exs fn ts (frG g as)
def SaysK (exs : List (Fk → Bool)) (fn : List DefD) (ts : List (Str × List Str)) (w : World) (K : Fk) : Prop := obsK exs fn ts K = valK fn ts w
def hookL (as : List Addr) (exs : List (Fk → Bool)) (fn : List DefD) (ts : List (Str × List Str)) : PySem.W.Hook where
  α := AlT
  obs := fun s => obsL as exs fn ts s.heap.get?
  val := fun w => valK fn ts w
  says := fun w h => ∃ K : Fk, K.In h ∧ SaysK exs fn ts w K
  of := fun _ _ e => ⟨_, frG_in, e⟩
  keeps := fun _ _ _ ⟨K, hK, c⟩ k => ⟨K, PySem.W.Frag.In.keeps hK k, c⟩
theorem obsL_eq {as : List Addr} {exs : List (Fk → Bool)} {fn : List DefD} {ts : List (Str × List Str)} {g : Addr → Option Obj} {s : Shared} (h : ∀ a, g a = s.heap.get? a) : obsL as exs fn ts g = (hookL as exs fn ts).obs s := by
  have e : g = s.heap.get? := funext h
  rw [e] <;> rfl
section
variable {exs : List (Fk → Bool)} {fn : List DefD} {ts : List (Str × List Str)} {w : World} {K : Fk}
theorem SaysK.fact (c : SaysK exs fn ts w K) (i : Nat) {f : Fk → Bool} (h : exs[i]? = some f := by rfl) : f K = true := by
  have c1 := (ba (show ((exs.all fun f => f K) && fn.all fun d => d.ok K) = true from congrArg (fun z : AlT => z.1.1) c)).1
  exact List.all_eq_true.mp c1 f (List.mem_of_getElem? h)
theorem SaysK.is (c : SaysK exs fn ts w K) {P : Prop} [Decidable P] (i : Nat) {f : Fk → Bool} (h : exs[i]? = some f := by rfl) (e : f K = decide P := by rfl) : P := of_decide_eq_true (e.symm.trans (c.fact i h))
theorem SaysK.def_ (c : SaysK exs fn ts w K) (i : Nat) {d : DefD} (h : fn[i]? = some d := by rfl) : ∃ fd, FunD K d.name d.qual d.params d.body d.scope (d.dvs K) (d.kws K) (fAd K d.at_) fd := by
  have c2 := (ba (show ((exs.all fun f => f K) && fn.all fun d => d.ok K) = true from congrArg (fun z : AlT => z.1.1) c)).2
  have e : fn.map (fun d => fnW K d.at_) = fn.map DefD.val := congrArg (fun z : AlT => z.1.2) c
  have e2 : (fn.map fun d => fnW K d.at_)[i]? = (fn.map DefD.val)[i]? := by rw [e]
  rw [List.getElem?_map, List.getElem?_map, h] at e2
  exact DefD.funD (Option.some.inj e2) (List.all_eq_true.mp c2 d (List.mem_of_getElem? h))
theorem funOf {x qual : Str} {st : Stmt} {f : Addr} {fd : FuncData} (F : FunD K x qual (defArgs st) (defBody st) (defScope st) [] [] f fd) : Fun K x qual st f fd := by
  obtain ⟨oc, od, dV, kV, doc, pm, an, cdv, ct, osl, e, lk, hcd, hd, _⟩ := F.ex
  refine ⟨⟨oc, od, kV, doc, pm, an, cdv, ct, osl, ?_, lk, hcd⟩, F.kp⟩
  rcases hd with ⟨_, rfl⟩ | ⟨h, _⟩
  · exact e
  · exact absurd rfl h
/-- a number, a text of the module -/
def intB (K : Fk) (x : Str) (i : Int) : Bool := match PySem.W.nsIn K mainGlobals x with
  | some (some (.int j _)) => decide (j = i)
  | _ => false
theorem intB_ok {h : Heap} {mg : Str → Option Value} (X : K.In h) (G : h.Ns mainGlobals mg) {x : Str} {i : Int} (c : intB K x i = true) : ∃ t, mg x = some (.int i t) := He.int_ok X G (x := x) (i := i) c
/-- a tuple of the module -/
def tplB (K : Fk) (a : Addr) (vs : List V) : Bool := match K.lookup a with
  | some ⟨.type c, _, .seq its _, _⟩ => decide (c = "tuple") && (decide (its.size ≤ sizeLine) && relAll vs its.toList)
  | _ => false
theorem tplB_ok {a : Addr} {vs : List V} (h : tplB K a vs = true) : ∃ (o : Obj) (its : Array Value) (n : Nat), K.lookup a = some o ∧ o.cls = .type "tuple" ∧ o.data = .seq its n ∧ its.size ≤ sizeLine ∧ Vals vs its.toList := by
  unfold tplB at h
  cases q : K.lookup a with
  | none =>
    rw [q] at h
    cases h
  | some o =>
    obtain ⟨oc, od, dt, osl⟩ := o
    rw [q] at h
    cases oc with
    | type c =>
      cases dt with
      | seq its n =>
        obtain ⟨h1, h2⟩ := ba (show (decide (c = "tuple") && (decide (its.size ≤ sizeLine) && relAll vs its.toList)) = true from h)
        obtain ⟨h3, h4⟩ := ba h2
        exact ⟨_, its, n, rfl, congrArg Value.type (of_decide_eq_true h1), rfl, of_decide_eq_true h3, relAll_ok h4⟩
      | _ => cases h
    | _ => cases dt <;> cases h
end
end Hk
/-! the run in three pieces: what each wants of memory is less -/
namespace Hk
open PySem PySem.W PySem.Calls PyProof.Rows HandSHeadRun He
def RunA (r : OpenRow) (q : Program) (M : Nat) (loose : List PySem.Str) (w : World) : Prop :=
  ∀ os : OsState, (endF (stepQ (denQ tabQ) r.prog w) M r.prog w os).map (fun s => (looksF r.prog (boot_heap w.params) s.abs, seenQ q loose (importedModules r.prog.main.body) (fun s => xlAt q [] s && recOk r.toRowW.records s) s.abs)) = some (true, openGood q loose)
def RunB (r : OpenRow) (M : Nat) (as : List Addr) (exs : List (Fk → Bool)) (w : World) : Prop :=
  ∀ os : OsState, (endF (stepQ (denQ tabQ) r.prog w) M r.prog w os).map (fun s => exs.all fun f => f (frG (getT s) as)) = some true
def RunC (r : OpenRow) (M : Nat) (as : List Addr) (fn : List DefD) (ts : List (PySem.Str × List PySem.Str)) (w : World) : Prop :=
  ∀ os : OsState, (endF (stepQ (denQ tabQ) r.prog w) M r.prog w os).map (fun s => ((fn.all fun d => d.ok (frG (getT s) as), fn.map fun d => fnW (frG (getT s) as) d.at_), ts.map fun t => dicW (frG (getT s) as) (ga (frG (getT s) as) t.1))) = some (valD fn, ts.map fun t => some (keysIn w.params t.2))
theorem run3 {r : OpenRow} {q : Program} {M : Nat} {loose : List PySem.Str} {w : World} {as : List Addr} {exs : List (Fk → Bool)} {fn : List DefD} {ts : List (PySem.Str × List PySem.Str)} {ob : SharedT → AlT} (ho : ∀ s, ob s = obsL as exs fn ts (getT s))
    (hA : RunA r q M loose w) (hB : RunB r M as exs w) (hC : RunC r M as fn ts w) : RunEq r q (hookL as exs fn ts) ob M loose w := by
  intro os
  have a := hA os
  have b := hB os
  have c := hC os
  cases e : endF (stepQ (denQ tabQ) r.prog w) M r.prog w os with
  | none => rw [e] at a; cases a
  | some s =>
    rw [e] at a b c
    have a1 := Option.some.inj a
    have b1 := Option.some.inj b
    have c1 := Option.some.inj c
    have a2 := congrArg Prod.fst a1
    have a3 := congrArg Prod.snd a1
    simp only at a2 a3 b1
    have o : ob s = valK fn ts w := by
      rw [ho]
      show obsK exs fn ts (frG (getT s) as) = valK fn ts w
      unfold obsK valK
      rw [b1]
      exact c1
    exact congrArg some (Prod.ext a2 (Prod.ext a3 o))
end Hk

namespace Kk
open PySem L2
def topS (i : Nat) : Stmt := PySem.Challenge.pw_surewire_k99_forms_of_books.main.body.getD i (.Pass ⟨0, 0, 0, 0⟩)
abbrev s_l_mixed : Stmt := topS 31
abbrev s_l_draw : Stmt := topS 38
abbrev s_l_next : Stmt := topS 32
abbrev s_l_pick : Stmt := topS 33
abbrev s_l_line : Stmt := topS 34
abbrev s_l_line_bent : Stmt := topS 35
abbrev s_l_kinds_of : Stmt := topS 36
abbrev s_is_between : Stmt := topS 26
abbrev s_is_whole : Stmt := topS 20
abbrev s_is_data : Stmt := topS 21
abbrev s_is_more : Stmt := topS 27
abbrev s_is_line : Stmt := topS 28
abbrev s_need_book : Stmt := topS 29
abbrev s_l_refused : Stmt := topS 37
abbrev s_law : Stmt := topS 39
end Kk
namespace Hx
open PySem PySem.Spec PyProof.Rows L2
def d0 : He.DefD := ⟨("_law_mixed", none), "_law_mixed", "_law_mixed", defArgs Kk.s_l_mixed, defBody Kk.s_l_mixed, defScope Kk.s_l_mixed, [], []⟩
def d1 : He.DefD := ⟨("_law_draw", none), "_law_draw", "_law_draw", defArgs Kk.s_l_draw, defBody Kk.s_l_draw, defScope Kk.s_l_draw, [], []⟩
def d2 : He.DefD := ⟨("_law_next", none), "_law_next", "_law_next", defArgs Kk.s_l_next, defBody Kk.s_l_next, defScope Kk.s_l_next, [], []⟩
def d3 : He.DefD := ⟨("_law_pick", none), "_law_pick", "_law_pick", defArgs Kk.s_l_pick, defBody Kk.s_l_pick, defScope Kk.s_l_pick, [], []⟩
def d4 : He.DefD := ⟨("_law_line", none), "_law_line", "_law_line", defArgs Kk.s_l_line, defBody Kk.s_l_line, defScope Kk.s_l_line, [], []⟩
def d5 : He.DefD := ⟨("_law_line_bent", none), "_law_line_bent", "_law_line_bent", defArgs Kk.s_l_line_bent, defBody Kk.s_l_line_bent, defScope Kk.s_l_line_bent, [], []⟩
def d6 : He.DefD := ⟨("_law_kinds_of", none), "_law_kinds_of", "_law_kinds_of", defArgs Kk.s_l_kinds_of, defBody Kk.s_l_kinds_of, defScope Kk.s_l_kinds_of, [], []⟩
def d7 : He.DefD := ⟨("is_between", none), "is_between", "is_between", defArgs Kk.s_is_between, defBody Kk.s_is_between, defScope Kk.s_is_between, [], []⟩
def d8 : He.DefD := ⟨("is_whole", none), "is_whole", "is_whole", defArgs Kk.s_is_whole, defBody Kk.s_is_whole, defScope Kk.s_is_whole, [], []⟩
def d9 : He.DefD := ⟨("is_data", none), "is_data", "is_data", defArgs Kk.s_is_data, defBody Kk.s_is_data, defScope Kk.s_is_data, [], []⟩
def d10 : He.DefD := ⟨("is_more", none), "is_more", "is_more", defArgs Kk.s_is_more, defBody Kk.s_is_more, defScope Kk.s_is_more, [], []⟩
def d11 : He.DefD := ⟨("is_line", none), "is_line", "is_line", defArgs Kk.s_is_line, defBody Kk.s_is_line, defScope Kk.s_is_line, [], []⟩
def d12 : He.DefD := ⟨("need_book", none), "need_book", "need_book", defArgs Kk.s_need_book, defBody Kk.s_need_book, defScope Kk.s_need_book, [], []⟩
def d13 : He.DefD := ⟨("_law_refused", none), "_law_refused", "_law_refused", defArgs Kk.s_l_refused, defBody Kk.s_l_refused, defScope Kk.s_l_refused, [], []⟩
def d14 : He.DefD := ⟨("law", none), "law", "law", defArgs Kk.s_law, defBody Kk.s_law, defScope Kk.s_law, [], []⟩
def q0 (K : Hk.Fk) : Bool := decide (PySem.W.nsIn K mainGlobals "NoBits" = some (some (.ref (He.ga K "NoBits"))))
def q1 (K : Hk.Fk) : Bool := decide (PySem.W.nsIn K mainGlobals "NoBook" = some (some (.ref (He.ga K "NoBook"))))
def q2 (K : Hk.Fk) : Bool := decide (PySem.W.nsIn K mainGlobals "NoCode" = some (some (.ref (He.ga K "NoCode"))))
def q3 (K : Hk.Fk) : Bool := decide (PySem.W.nsIn K mainGlobals "NoData" = some (some (.ref (He.ga K "NoData"))))
def q4 (K : Hk.Fk) : Bool := decide (PySem.W.nsIn K mainGlobals "NoDeed" = some (some (.ref (He.ga K "NoDeed"))))
def q5 (K : Hk.Fk) : Bool := decide (PySem.W.nsIn K mainGlobals "NoNumber" = some (some (.ref (He.ga K "NoNumber"))))
def q6 (K : Hk.Fk) : Bool := decide (PySem.W.nsIn K mainGlobals "NoPacket" = some (some (.ref (He.ga K "NoPacket"))))
def q7 (K : Hk.Fk) : Bool := decide (PySem.W.nsIn K mainGlobals "NoPlace" = some (some (.ref (He.ga K "NoPlace"))))
def q8 (K : Hk.Fk) : Bool := decide (PySem.W.nsIn K mainGlobals "NoPort" = some (some (.ref (He.ga K "NoPort"))))
def q9 (K : Hk.Fk) : Bool := decide (PySem.W.nsIn K mainGlobals "NoSegment" = some (some (.ref (He.ga K "NoSegment"))))
def q10 (K : Hk.Fk) : Bool := decide (PySem.W.nsIn K mainGlobals "NoSize" = some (some (.ref (He.ga K "NoSize"))))
def q11 (K : Hk.Fk) : Bool := decide (PySem.W.nsIn K mainGlobals "NoTable" = some (some (.ref (He.ga K "NoTable"))))
def q12 (K : Hk.Fk) : Bool := decide (PySem.W.nsIn K mainGlobals "NoTalk" = some (some (.ref (He.ga K "NoTalk"))))
def q13 (K : Hk.Fk) : Bool := decide (PySem.W.nsIn K mainGlobals "NoText" = some (some (.ref (He.ga K "NoText"))))
def q14 (K : Hk.Fk) : Bool := decide (PySem.W.nsIn K mainGlobals "NoTick" = some (some (.ref (He.ga K "NoTick"))))
def q15 (K : Hk.Fk) : Bool := decide (PySem.W.nsIn K mainGlobals "STANDS" = some (some (.ref (He.ga K "STANDS"))))
def q16 (K : Hk.Fk) : Bool := decide (PySem.W.nsIn K mainGlobals "WireError" = some (some (.ref (He.ga K "WireError"))))
def q17 (K : Hk.Fk) : Bool := decide (PySem.W.nsIn K mainGlobals "ValueError" = some none)
def q18 (K : Hk.Fk) : Bool := decide (PySem.W.nsIn K mainGlobals "all" = some none)
def q19 (K : Hk.Fk) : Bool := decide (PySem.W.nsIn K mainGlobals "bool" = some none)
def q20 (K : Hk.Fk) : Bool := decide (PySem.W.nsIn K mainGlobals "dict" = some none)
def q21 (K : Hk.Fk) : Bool := decide (PySem.W.nsIn K mainGlobals "int" = some none)
def q22 (K : Hk.Fk) : Bool := decide (PySem.W.nsIn K mainGlobals "isinstance" = some none)
def q23 (K : Hk.Fk) : Bool := decide (PySem.W.nsIn K mainGlobals "len" = some none)
def q24 (K : Hk.Fk) : Bool := decide (PySem.W.nsIn K mainGlobals "list" = some none)
def q25 (K : Hk.Fk) : Bool := decide (PySem.W.nsIn K mainGlobals "max" = some none)
def q26 (K : Hk.Fk) : Bool := decide (PySem.W.nsIn K mainGlobals "min" = some none)
def q27 (K : Hk.Fk) : Bool := decide (PySem.W.nsIn K mainGlobals "range" = some none)
def q28 (K : Hk.Fk) : Bool := decide (PySem.W.nsIn K mainGlobals "repr" = some none)
def q29 (K : Hk.Fk) : Bool := decide (PySem.W.nsIn K mainGlobals "sorted" = some none)
def q30 (K : Hk.Fk) : Bool := decide (PySem.W.nsIn K mainGlobals "str" = some none)
def q31 (K : Hk.Fk) : Bool := decide (PySem.W.nsIn K mainGlobals "tuple" = some none)
def q32 (K : Hk.Fk) : Bool := Hk.intB K "BYTE" 255
def q33 (K : Hk.Fk) : Bool := Hk.intB K "MOST_BYTE" 255
def q34 (K : Hk.Fk) : Bool := Hk.intB K "MOST_DATA" 1000
def q35 (K : Hk.Fk) : Bool := Hk.intB K "SIZE" 4294967296
def q36 (K : Hk.Fk) : Bool := decide (PySem.W.excIn K (He.ga K "NoBook") [.type "ValueError", .type "Exception", .type "BaseException", .type "object"] "ValueError.__new__" = true)
def q37 (K : Hk.Fk) : Bool := decide (PySem.W.keepIn K (.ref (He.ga K "NoBook")) = true)
def q38 (K : Hk.Fk) : Bool := decide (PySem.W.subIn K (.ref (He.ga K "NoBook")) (.type "BaseException") = some true)
def q39 (K : Hk.Fk) : Bool := decide (PySem.W.typeIn K (.ref (He.ga K "NoBook")) = some (.type "type"))
def q40 (K : Hk.Fk) : Bool := decide (PySem.W.exmOne K (.ref (He.ga K "NoBook")) (.ref (He.ga K "WireError")) = some true)
def q41 (K : Hk.Fk) : Bool := decide (PySem.W.findIn K (.ref (He.ga K "NoBook")) "__getattribute__" = some (some (.builtin "BaseException.__getattribute__")))
def q42 (K : Hk.Fk) : Bool := decide (PySem.W.findIn K (.ref (He.ga K "NoBook")) "__getattr__" = some none)
def q43 (K : Hk.Fk) : Bool := decide (PySem.W.subIn K (.ref (He.ga K "NoBook")) (.type "BaseException") = some true)
def q44 (K : Hk.Fk) : Bool := decide (PySem.W.hasDictIn K (He.ga K "NoBook") = true)
def q45 (K : Hk.Fk) : Bool := decide (PySem.W.findIn K (.ref (He.ga K "NoBook")) "__class__" = some (some (.builtin "object.__class__")))
def q46 (K : Hk.Fk) : Bool := decide (PySem.W.specialIn K (.builtin "object.__class__") "__get__" = some (some (.builtin "getset_descriptor.__get__")))
def q47 (K : Hk.Fk) : Bool := decide (PySem.W.takesIn K (.builtin "object.__class__") = some true)
def q48 (K : Hk.Fk) : Bool := decide (PySem.W.mroIn K (He.ga K "NoBook") (.type "object") = some true)
def q49 (K : Hk.Fk) : Bool := decide (PySem.W.kitOne K (.ref (He.ga K "NoBook")) (.ref (He.ga K "NoBits")) = some false)
def q50 (K : Hk.Fk) : Bool := decide (PySem.W.kitOne K (.ref (He.ga K "NoBook")) (.ref (He.ga K "NoBook")) = some true)
def q51 (K : Hk.Fk) : Bool := decide (PySem.W.kitOne K (.ref (He.ga K "NoBook")) (.ref (He.ga K "NoCode")) = some false)
def q52 (K : Hk.Fk) : Bool := decide (PySem.W.kitOne K (.ref (He.ga K "NoBook")) (.ref (He.ga K "NoData")) = some false)
def q53 (K : Hk.Fk) : Bool := decide (PySem.W.kitOne K (.ref (He.ga K "NoBook")) (.ref (He.ga K "NoDeed")) = some false)
def q54 (K : Hk.Fk) : Bool := decide (PySem.W.kitOne K (.ref (He.ga K "NoBook")) (.ref (He.ga K "NoNumber")) = some false)
def q55 (K : Hk.Fk) : Bool := decide (PySem.W.kitOne K (.ref (He.ga K "NoBook")) (.ref (He.ga K "NoPacket")) = some false)
def q56 (K : Hk.Fk) : Bool := decide (PySem.W.kitOne K (.ref (He.ga K "NoBook")) (.ref (He.ga K "NoPlace")) = some false)
def q57 (K : Hk.Fk) : Bool := decide (PySem.W.kitOne K (.ref (He.ga K "NoBook")) (.ref (He.ga K "NoPort")) = some false)
def q58 (K : Hk.Fk) : Bool := decide (PySem.W.kitOne K (.ref (He.ga K "NoBook")) (.ref (He.ga K "NoSegment")) = some false)
def q59 (K : Hk.Fk) : Bool := decide (PySem.W.kitOne K (.ref (He.ga K "NoBook")) (.ref (He.ga K "NoSize")) = some false)
def q60 (K : Hk.Fk) : Bool := decide (PySem.W.kitOne K (.ref (He.ga K "NoBook")) (.ref (He.ga K "NoTable")) = some false)
def q61 (K : Hk.Fk) : Bool := decide (PySem.W.kitOne K (.ref (He.ga K "NoBook")) (.ref (He.ga K "NoTalk")) = some false)
def q62 (K : Hk.Fk) : Bool := decide (PySem.W.kitOne K (.ref (He.ga K "NoBook")) (.ref (He.ga K "NoText")) = some false)
def q63 (K : Hk.Fk) : Bool := decide (PySem.W.kitOne K (.ref (He.ga K "NoBook")) (.ref (He.ga K "NoTick")) = some false)
def q64 (K : Hk.Fk) : Bool := decide (PySem.W.kitOne K (.ref (He.ga K "NoBook")) (.ref (He.ga K "WireError")) = some true)
def q65 (K : Hk.Fk) : Bool := decide (PySem.W.kitOne K (.ref (He.ga K "NoBook")) (.type "ValueError") = some true)
def q66 (K : Hk.Fk) : Bool := decide (PySem.W.kitOne K (.ref (He.ga K "NoBook")) (.type "bool") = some false)
def q67 (K : Hk.Fk) : Bool := decide (PySem.W.kitOne K (.ref (He.ga K "NoBook")) (.type "int") = some false)
def q68 (K : Hk.Fk) : Bool := decide (PySem.W.kitOne K (.ref (He.ga K "NoBook")) (.type "list") = some false)
def q69 (K : Hk.Fk) : Bool := decide (PySem.W.kitOne K (.ref (He.ga K "NoBook")) (.type "str") = some false)
def q70 (K : Hk.Fk) : Bool := decide (PySem.W.kitOne K (.ref (He.ga K "NoBook")) (.type "tuple") = some false)
def q71 (K : Hk.Fk) : Bool := Hk.tplB K (He.ga K "STANDS") ([("calls" : Str), ("answers" : Str), ("open" : Str), ("ends" : Str), ("left" : Str), ("rests" : Str), ("closed" : Str), ("cut" : Str), ("gone" : Str)].map V.str)
def q72 (K : Hk.Fk) : Bool := decide (PySem.W.nsIn K mainGlobals "_law_mixed" = some (some (.ref (He.ga K "_law_mixed"))))
def q73 (K : Hk.Fk) : Bool := decide (PySem.W.nsIn K mainGlobals "_law_draw" = some (some (.ref (He.ga K "_law_draw"))))
def q74 (K : Hk.Fk) : Bool := decide (PySem.W.nsIn K mainGlobals "_law_next" = some (some (.ref (He.ga K "_law_next"))))
def q75 (K : Hk.Fk) : Bool := decide (PySem.W.nsIn K mainGlobals "_law_pick" = some (some (.ref (He.ga K "_law_pick"))))
def q76 (K : Hk.Fk) : Bool := decide (PySem.W.nsIn K mainGlobals "_law_line" = some (some (.ref (He.ga K "_law_line"))))
def q77 (K : Hk.Fk) : Bool := decide (PySem.W.nsIn K mainGlobals "_law_line_bent" = some (some (.ref (He.ga K "_law_line_bent"))))
def q78 (K : Hk.Fk) : Bool := decide (PySem.W.nsIn K mainGlobals "_law_kinds_of" = some (some (.ref (He.ga K "_law_kinds_of"))))
def q79 (K : Hk.Fk) : Bool := decide (PySem.W.nsIn K mainGlobals "is_between" = some (some (.ref (He.ga K "is_between"))))
def q80 (K : Hk.Fk) : Bool := decide (PySem.W.nsIn K mainGlobals "is_whole" = some (some (.ref (He.ga K "is_whole"))))
def q81 (K : Hk.Fk) : Bool := decide (PySem.W.nsIn K mainGlobals "is_data" = some (some (.ref (He.ga K "is_data"))))
def q82 (K : Hk.Fk) : Bool := decide (PySem.W.nsIn K mainGlobals "is_more" = some (some (.ref (He.ga K "is_more"))))
def q83 (K : Hk.Fk) : Bool := decide (PySem.W.nsIn K mainGlobals "is_line" = some (some (.ref (He.ga K "is_line"))))
def q84 (K : Hk.Fk) : Bool := decide (PySem.W.nsIn K mainGlobals "need_book" = some (some (.ref (He.ga K "need_book"))))
def q85 (K : Hk.Fk) : Bool := decide (PySem.W.nsIn K mainGlobals "_law_refused" = some (some (.ref (He.ga K "_law_refused"))))
def q86 (K : Hk.Fk) : Bool := decide (PySem.W.nsIn K mainGlobals "law" = some (some (.ref (He.ga K "law"))))
def exs_0 : List (Hk.Fk → Bool) := [q0, q1, q2, q3, q4, q5, q6, q7, q8, q9, q10, q11, q12, q13, q14]
def exs_1 : List (Hk.Fk → Bool) := [q15, q16, q17, q18, q19, q20, q21, q22, q23, q24, q25, q26, q27, q28, q29]
def exs_2 : List (Hk.Fk → Bool) := [q30, q31, q32, q33, q34, q35, q36, q37, q38, q39, q40, q41, q42, q43, q44]
def exs_3 : List (Hk.Fk → Bool) := [q45, q46, q47, q48, q49, q50, q51, q52, q53, q54, q55, q56, q57, q58, q59]
def exs_4 : List (Hk.Fk → Bool) := [q60, q61, q62, q63, q64, q65, q66, q67, q68, q69, q70, q71, q72, q73, q74]
def exs_5 : List (Hk.Fk → Bool) := [q75, q76, q77, q78, q79, q80, q81, q82, q83, q84, q85, q86]
def exs : List (Hk.Fk → Bool) := exs_0 ++ (exs_1 ++ (exs_2 ++ (exs_3 ++ (exs_4 ++ (exs_5)))))
def fn_0 : List He.DefD := [d0, d1, d2, d3, d4, d5, d6, d7, d8, d9, d10, d11, d12, d13, d14]
def fn : List He.DefD := fn_0
def ts_0 : List (Str × List Str) := []
def ts : List (Str × List Str) := ts_0
def as__0 : List Addr := [2, 3, 23, 36, 48, 60, 72, 84, 96, 108, 120, 132, 144, 156, 168, 180, 192, 211, 24, 37, 49, 61, 73, 85, 97, 109, 121, 133, 145, 157]
def as__1 : List Addr := [169, 181, 193, 212, 227, 209, 221, 226, 234, 241, 246, 251, 258, 265, 272, 277, 284, 289, 296, 303, 310, 25, 208, 220, 225, 233, 240, 245, 250, 257]
def as__2 : List Addr := [264, 271, 276, 283, 288, 295, 302, 309]
def as_ : List Addr := as__0 ++ (as__1 ++ (as__2))
def names_0 : List Str := ["WireError", "NoBits", "NoData", "NoNumber", "NoCode", "NoPacket", "NoTable", "NoPlace", "NoSegment", "NoTick", "NoTalk", "NoPort", "NoDeed", "NoBook", "NoSize"]
def names_1 : List Str := ["NoText", "MOST_DATA", "MOST_BYTE", "is_whole", "is_data", "SIZE", "BYTE", "STANDS", "is_between", "is_more", "is_line", "need_book", "_law_mixed", "_law_next", "_law_pick"]
def names_2 : List Str := ["_law_line", "_law_line_bent", "_law_kinds_of", "_law_refused", "_law_draw"]
def names : List Str := names_0 ++ (names_1 ++ (names_2))
abbrev R : PySem.W.OpenRow := PySem.W.OpenLaw.row PySem.Challenge.rw_surewire_k99_forms_of_books
abbrev qv : Program := PySem.W.view R.prog [39]
abbrev hk : PySem.W.Hook := Hk.hookL as_ exs fn ts
def ob (s : PySem.W.SharedT) : He.AlT := Hk.obsL as_ exs fn ts (HandSHeadRun.getT s)
theorem ob_eq (s : PySem.W.SharedT) : ob s = hk.obs s.abs := Hk.obsL_eq (HandSHeadRun.getT_eq s)
def RE (w : World) : Prop := HandSHeadRun.RunEq R qv hk ob 5976 names w
set_option maxHeartbeats 0 in
theorem runA_ (w : World) : Hk.RunA R qv 5976 names w := by
  intro os
  kernel_rfl
set_option maxHeartbeats 0 in
theorem runB_ (w : World) : Hk.RunB R 5976 as_ exs w := by
  intro os
  kernel_rfl
set_option maxHeartbeats 0 in
theorem runC_ (w : World) : Hk.RunC R 5976 as_ fn ts w := by
  intro os
  kernel_rfl
theorem run_ (w : World) : RE w := Hk.run3 (fun _ => rfl) (runA_ w) (runB_ w) (runC_ w)
theorem run (w : World) : RE w := run_ w
end Hx
/-! ## the data layer: what a reading gives, told by plain data; what stands is told by slots -/
namespace DL
open PySem L2

/-- plain data -/
inductive D where
  | non | bl (b : Bool) | int (i : Int) | str (x : Str) | ty (n : String) | ref (a : Addr)
  | tup (l : List D) | lst (l : List D) | scr (l : List D)
  | dic (l : List (Key × D)) | dit (l : List (List Key × D))
  | obj (C : Addr) (fs : List (Str × D))
  | exc (C : Addr)
/-- what one owned object holds -/
inductive OB where
  | lst (l : List D) | dic (l : List (Key × D)) | dit (l : List (List Key × D)) | obj (C : Addr) (fs : List (Str × D))
def OB.d : OB → D
  | .lst l => .lst l
  | .dic l => .dic l
  | .dit l => .dit l
  | .obj C fs => .obj C fs
/-- what is known of a slot -/
inductive EV where
  | any | val (d : D) | own (o : OB)
abbrev Env := List EV

def Ex (H H' : Hp) : Prop := ∀ a o, H a = some o → H' a = some o
theorem Ex.refl (H : Hp) : Ex H H := fun _ _ h => h
theorem Ex.trans {H H1 H2 : Hp} (a : Ex H H1) (b : Ex H1 H2) : Ex H H2 := fun x o h => b x o (a x o h)
theorem Ex.new {H : Hp} {p : Addr} {o : HO} (h : H p = none) : Ex H (upd H p o) := fun a u e => by
  rw [upd_ne (ne_of_none e h)]; exact e
theorem Ex.back {H H' : Hp} {p : Addr} (e : Ex H H') (h : H' p = none) : H p = none := by
  cases h1 : H p with
  | none => rfl
  | some o => rw [e p o h1] at h; cases h
theorem Ex.both {F H : Hp} {p : Addr} {o : HO} (e : Ex F H) : Ex (upd F p o) (upd H p o) := fun a u h => by
  by_cases q : a = p
  · subst q; rw [upd_same] at h ⊢; exact h
  · rw [upd_ne q] at h ⊢; exact e a u h
theorem Ex.right {F H : Hp} {p : Addr} {o : HO} (e : Ex F H) (h : F p = none) : Ex F (upd H p o) := fun a u q => by
  rw [upd_ne (ne_of_none q h)]; exact e a u q
theorem Ex.left {F H : Hp} {p : Addr} {o : HO} (e : Ex F H) (h : H p = some o) : Ex (upd F p o) H := fun a u q => by
  by_cases z : a = p
  · subst z; rw [upd_same] at q; rw [h]; exact q
  · rw [upd_ne z] at q; exact e a u q
theorem Ex.rd {H H' : Hp} {a : Addr} {u : HO} (e : Ex H H') (h : Rd H a u) : Rd H' a u := by
  rcases h with h | ⟨o, h⟩
  · exact Or.inl (e a _ h)
  · exact Or.inr ⟨o, e a _ h⟩
theorem Ex.l {K : PySem.W.Frag} {H H' : Hp} {a : Addr} {xs : List V} (e : Ex H H') (h : SqL K H a xs) : SqL K H' a xs := by
  rcases h with h | h
  · exact Or.inl (e.rd h)
  · exact Or.inr h
theorem Ex.t {K : PySem.W.Frag} {H H' : Hp} {a : Addr} {xs : List V} (e : Ex H H') (h : SqT K H a xs) : SqT K H' a xs := by
  rcases h with h | h
  · exact Or.inl (e.rd h)
  · exact Or.inr h

/-- an exception of the class at C, caught and kept -/
def ExK (C a : Addr) : HO := .ext fun h => ∃ (oe : Obj) (vs : Array Value), h.get? a = some oe ∧ Zc (.ref C) none oe ∧ oe.data = .fields vs
mutual
/-- the value v is the data d, all of it standing in F -/
inductive Rep (K : PySem.W.Frag) (F : Hp) : V → D → Prop
  | non : Rep K F .non .non
  | bl (b : Bool) : Rep K F (.bl b) (.bl b)
  | int (i : Int) : Rep K F (.int i) (.int i)
  | str (x : Str) : Rep K F (.str x) (.str x)
  | ty (n : String) : Rep K F (.ty n) (.ty n)
  | ref (a : Addr) : Rep K F (.ref a) (.ref a)
  | tup {a : Addr} {vs : List V} {l : List D} : SqT K F a vs → RepL K F vs l → Rep K F (.ref a) (.tup l)
  | lst {a : Addr} {vs : List V} {l : List D} : F a = some (.lst vs) → RepL K F vs l → Rep K F (.ref a) (.lst l)
  | scr {a : Addr} {vs : List V} {l : List D} : SqL K F a vs → RepL K F vs l → Rep K F (.ref a) (.scr l)
  | dic {a : Addr} {ks : List Key} {vs : List V} {ds : List D} : F a = some (.dK (ks.zip vs)) → ks.length = ds.length → RepL K F vs ds → Rep K F (.ref a) (.dic (ks.zip ds))
  | dit {a : Addr} {ks : List (List Key)} {vs : List V} {ds : List D} : F a = some (.dT (ks.zip vs)) → ks.length = ds.length → RepL K F vs ds → Rep K F (.ref a) (.dit (ks.zip ds))
  | obj {a C dx : Addr} {ks : List Str} {vs : List V} {ds : List D} : F a = some (.ins C dx (ks.zip vs)) → ks.length = ds.length → RepL K F vs ds → Rep K F (.ref a) (.obj C (ks.zip ds))
  | exc {a C : Addr} : F a = some (ExK C a) → Rep K F (.ref a) (.exc C)
inductive RepL (K : PySem.W.Frag) (F : Hp) : List V → List D → Prop
  | nil : RepL K F [] []
  | cons {v : V} {vs : List V} {d : D} {ds : List D} : Rep K F v d → RepL K F vs ds → RepL K F (v :: vs) (d :: ds)
end
section
variable {K : PySem.W.Frag} {F F' : Hp}
mutual
theorem Rep.mono (e : Ex F F') : ∀ {v : V} {d : D}, Rep K F v d → Rep K F' v d
  | _, _, .non => .non
  | _, _, .bl b => .bl b
  | _, _, .int i => .int i
  | _, _, .str x => .str x
  | _, _, .ty n => .ty n
  | _, _, .ref a => .ref a
  | _, _, .tup h r => .tup (e.t h) (RepL.mono e r)
  | _, _, .lst h r => .lst (e _ _ h) (RepL.mono e r)
  | _, _, .scr h r => .scr (e.l h) (RepL.mono e r)
  | _, _, .dic h l r => .dic (e _ _ h) l (RepL.mono e r)
  | _, _, .dit h l r => .dit (e _ _ h) l (RepL.mono e r)
  | _, _, .obj h l r => .obj (e _ _ h) l (RepL.mono e r)
  | _, _, .exc h => .exc (e _ _ h)
theorem RepL.mono (e : Ex F F') : ∀ {vs : List V} {ds : List D}, RepL K F vs ds → RepL K F' vs ds
  | _, _, .nil => .nil
  | _, _, .cons h r => .cons (Rep.mono e h) (RepL.mono e r)
end
theorem RepL.length : ∀ {vs : List V} {ds : List D}, RepL K F vs ds → vs.length = ds.length
  | _, _, .nil => rfl
  | _, _, .cons _ r => by rw [List.length_cons, List.length_cons, r.length]
theorem RepL.get : ∀ {vs : List V} {ds : List D} {i : Nat} {d : D}, RepL K F vs ds → ds[i]? = some d → ∃ v, vs[i]? = some v ∧ Rep K F v d
  | _, _, _, _, .nil, h => by simp at h
  | _, _, 0, _, .cons h _, e => by simp at e; subst e; exact ⟨_, rfl, h⟩
  | _, _, i + 1, _, .cons _ r, e => by
    obtain ⟨v, h1, h2⟩ := RepL.get (i := i) r (by simpa using e)
    exact ⟨v, by simpa using h1, h2⟩
theorem RepL.append : ∀ {vs ws : List V} {ds es : List D}, RepL K F vs ds → RepL K F ws es → RepL K F (vs ++ ws) (ds ++ es)
  | _, _, _, _, .nil, s => s
  | _, _, _, _, .cons h r, s => .cons h (RepL.append r s)
theorem RepL.take : ∀ {vs : List V} {ds : List D} (n : Nat), RepL K F vs ds → RepL K F (vs.take n) (ds.take n)
  | _, _, 0, _ => .nil
  | _, _, _ + 1, .nil => .nil
  | _, _, n + 1, .cons h r => .cons h (RepL.take n r)
theorem RepL.drop : ∀ {vs : List V} {ds : List D} (n : Nat), RepL K F vs ds → RepL K F (vs.drop n) (ds.drop n)
  | _, _, 0, r => r
  | _, _, _ + 1, .nil => .nil
  | _, _, n + 1, .cons _ r => RepL.drop n r
theorem RepL.set {v : V} {d : D} (h : Rep K F v d) : ∀ {vs : List V} {ds : List D} (n : Nat), RepL K F vs ds → RepL K F (vs.set n v) (ds.set n d)
  | _, _, _, .nil => .nil
  | _, _, 0, .cons _ r => .cons h r
  | _, _, n + 1, .cons q r => .cons q (RepL.set h n r)
theorem RepL.reverse : ∀ {vs : List V} {ds : List D}, RepL K F vs ds → RepL K F vs.reverse ds.reverse
  | _, _, .nil => .nil
  | _, _, .cons h r => by
    rw [List.reverse_cons, List.reverse_cons]
    exact (RepL.reverse r).append (.cons h .nil)
/-- ints, truths, texts: the values are those of the data -/
theorem RepL.ints : ∀ {vs : List V} {ns : List Int}, RepL K F vs (ns.map D.int) → vs = ns.map V.int
  | _, [], h => by cases h; rfl
  | _, n :: r, h => by
    cases h with
    | cons q t => cases q; rw [RepL.ints t]; rfl
theorem RepL.bools : ∀ {vs : List V} {ns : List Bool}, RepL K F vs (ns.map D.bl) → vs = ns.map V.bl
  | _, [], h => by cases h; rfl
  | _, n :: r, h => by
    cases h with
    | cons q t => cases q; rw [RepL.bools t]; rfl
theorem RepL.of_ints : ∀ {ns : List Int}, RepL K F (ns.map V.int) (ns.map D.int)
  | [] => .nil
  | n :: _ => .cons (.int n) RepL.of_ints
/-- data that no heap is asked for -/
def flat : D → Bool
  | .non | .bl _ | .int _ | .str _ | .ty _ | .ref _ => true
  | _ => false
theorem Rep.flat {v : V} {d : D} (h : Rep K F v d) (f : flat d = true) : Rep K F' v d := by
  cases h <;> first | (cases f; done) | constructor
theorem RepL.flat : ∀ {vs : List V} {ds : List D}, RepL K F vs ds → ds.all DL.flat = true → RepL K F' vs ds
  | _, _, .nil, _ => .nil
  | _, _, .cons h r, f => by
    rw [List.all_cons, Bool.and_eq_true] at f
    exact .cons (h.flat f.1) (RepL.flat r f.2)
end

/-- the owned object at a holds o; its parts stand in F -/
def ORep (K : PySem.W.Frag) (F H : Hp) (a : Addr) : OB → Prop
  | .lst l => ∃ vs, H a = some (.lst vs) ∧ RepL K F vs l
  | .dic l => ∃ ks vs ds, H a = some (.dK (List.zip ks vs)) ∧ List.length ks = List.length ds ∧ RepL K F vs ds ∧ l = ks.zip ds
  | .dit l => ∃ ks vs ds, H a = some (.dT (List.zip ks vs)) ∧ List.length ks = List.length ds ∧ RepL K F vs ds ∧ l = ks.zip ds
  | .obj C fs => ∃ dx ks vs ds, H a = some (.ins C dx (List.zip ks vs)) ∧ List.length ks = List.length ds ∧ RepL K F vs ds ∧ fs = ks.zip ds
section
variable {K : PySem.W.Frag} {F F' H H' : Hp} {a : Addr} {o : OB}
theorem ORep.mono (h : ORep K F H a o) (e : Ex F F') (k : ∀ u, H a = some u → H' a = some u) : ORep K F' H' a o := by
  cases o with
  | lst l => obtain ⟨vs, x, r⟩ := h; exact ⟨vs, k _ x, r.mono e⟩
  | dic l => obtain ⟨ks, vs, ds, x, z, r, q⟩ := h; exact ⟨ks, vs, ds, k _ x, z, r.mono e, q⟩
  | dit l => obtain ⟨ks, vs, ds, x, z, r, q⟩ := h; exact ⟨ks, vs, ds, k _ x, z, r.mono e, q⟩
  | obj C fs => obtain ⟨dx, ks, vs, ds, x, z, r, q⟩ := h; exact ⟨dx, ks, vs, ds, k _ x, z, r.mono e, q⟩
theorem ORep.ho (h : ORep K F H a o) : ∃ u, H a = some u := by
  cases o with
  | lst l => obtain ⟨vs, x, r⟩ := h; exact ⟨_, x⟩
  | dic l => obtain ⟨ks, vs, ds, x, _⟩ := h; exact ⟨_, x⟩
  | dit l => obtain ⟨ks, vs, ds, x, _⟩ := h; exact ⟨_, x⟩
  | obj C fs => obtain ⟨dx, ks, vs, ds, x, _⟩ := h; exact ⟨_, x⟩
/-- an owned object, given up: from now on it stands -/
theorem ORep.give (h : ORep K F H a o) (n : F a = none) : ∃ u, H a = some u ∧ Rep K (upd F a u) (.ref a) o.d := by
  cases o with
  | lst l => obtain ⟨vs, x, r⟩ := h; exact ⟨_, x, .lst upd_same (r.mono (Ex.new n))⟩
  | dic l => obtain ⟨ks, vs, ds, x, z, r, q⟩ := h; subst q; exact ⟨_, x, .dic upd_same z (r.mono (Ex.new n))⟩
  | dit l => obtain ⟨ks, vs, ds, x, z, r, q⟩ := h; subst q; exact ⟨_, x, .dit upd_same z (r.mono (Ex.new n))⟩
  | obj C fs => obtain ⟨dx, ks, vs, ds, x, z, r, q⟩ := h; subst q; exact ⟨_, x, .obj upd_same z (r.mono (Ex.new n))⟩
end

/-- what grows between two moments: what stands (F) and all that is tracked (H) -/
structure Grow (F0 H0 F H : Hp) : Prop where
  gf : Ex F0 F
  gh : Ex H0 H
  fh : Ex F H
  gn : ∀ a, F a ≠ none → F0 a ≠ none ∨ H0 a = none
section
variable {F0 H0 F1 H1 F H : Hp}
theorem Grow.refl (e : Ex F H) : Grow F H F H := ⟨Ex.refl _, Ex.refl _, e, fun _ h => .inl h⟩
theorem Grow.trans (a : Grow F0 H0 F1 H1) (b : Grow F1 H1 F H) : Grow F0 H0 F H := ⟨a.gf.trans b.gf, a.gh.trans b.gh, b.fh, fun x h => by
  rcases b.gn x h with q | q
  · exact a.gn x q
  · exact .inr (a.gh.back q)⟩
/-- a new object, standing -/
theorem Grow.new {p : Addr} {o : HO} (g : Grow F0 H0 F H) (n : H p = none) : Grow F0 H0 (upd F p o) (upd H p o) := ⟨g.gf.trans (Ex.new (g.fh.back n)), g.gh.trans (Ex.new n), g.fh.both, fun x h => by
  by_cases q : x = p
  · subst q; exact .inr (g.gh.back n)
  · rw [upd_ne q] at h; exact g.gn x h⟩
/-- an owned new one is given up -/
theorem Grow.give {p : Addr} {o : HO} (g : Grow F0 H0 F H) (n : F p = none) (n0 : H0 p = none) (e : H p = some o) : Grow F0 H0 (upd F p o) H := ⟨g.gf.trans (Ex.new n), g.gh, g.fh.left e, fun x h => by
  by_cases q : x = p
  · subst q; exact .inr n0
  · rw [upd_ne q] at h; exact g.gn x h⟩
end

/-- where a def begins: what stands, what is tracked, which slots hold the objects handed in to be changed -/
structure Bs where
  F : Hp
  H : Hp
  fx : Nat → Option Addr
/-- the slots as they are known; oa i the address of what slot i owns -/
structure Sig (K : PySem.W.Frag) (b : Bs) (F : Hp) (oa : Nat → Addr) (σ : L2.St) (H : Hp) (env : Env) : Prop where
  g : Grow b.F b.H F H
  len : σ.length = env.length
  val : ∀ (i : Nat) (d : D), env[i]? = some (EV.val d) → ∃ v : V, σ[i]? = some (some v) ∧ Rep K F v d
  own : ∀ (i : Nat) (o : OB), env[i]? = some (EV.own o) → σ[i]? = some (some (.ref (oa i))) ∧ F (oa i) = none ∧ b.H (oa i) = none ∧ ORep K F H (oa i) o
  dist : ∀ (i j : Nat) (o u : OB), env[i]? = some (EV.own o) → env[j]? = some (.own u) → oa i = oa j → i = j
  fix : ∀ (i : Nat) (a : Addr), b.fx i = some a → oa i = a ∧ H a ≠ none
section
variable {K : PySem.W.Frag} {b : Bs} {F F1 H H1 : Hp} {oa : Nat → Addr} {σ : L2.St} {env env' : Env} {i : Nat} {v : V} {d : D} {o : OB}
/-- what is owned is not there where nothing is -/
theorem Sig.ne (S : Sig K b F oa σ H env) {p : Addr} (n : H p = none) (e : env[i]? = some (.own o)) : oa i ≠ p := fun q => by
  obtain ⟨_, _, _, r⟩ := S.own i o e
  obtain ⟨u, hu⟩ := r.ho
  rw [q, n] at hu; cases hu
/-- more stands, all else as it was -/
theorem Sig.grow (S : Sig K b F oa σ H env) (g : Grow F H F1 H1) : Sig K b F1 oa σ H1 env where
  g := S.g.trans g
  len := S.len
  val := fun i d e => by
    obtain ⟨v, h1, h2⟩ := S.val i d e
    exact ⟨v, h1, h2.mono g.gf⟩
  own := fun i o e => by
    obtain ⟨h1, h2, h3, h4⟩ := S.own i o e
    refine ⟨h1, ?_, h3, h4.mono g.gf fun u q => g.gh _ _ q⟩
    cases q : F1 (oa i) with
    | none => rfl
    | some u =>
      rcases g.gn (oa i) (by rw [q]; simp) with z | z
      · exact absurd h2 z
      · obtain ⟨w, hw⟩ := h4.ho
        rw [z] at hw; cases hw
  dist := S.dist
  fix := fun i c e => by
    obtain ⟨h1, h2⟩ := S.fix i c e
    refine ⟨h1, fun z => ?_⟩
    exact h2 (g.gh.back z)
theorem Sig.new {p : Addr} {u : HO} (S : Sig K b F oa σ H env) (n : H p = none) : Sig K b (upd F p u) oa σ (upd H p u) env := S.grow ((Grow.refl S.g.fh).new n)
/-- slot i holds v -/
theorem Sig.set (S : Sig K b F oa σ H env) (r : Rep K F v d) : Sig K b F oa (σ.set i (some v)) H (env.set i (.val d)) where
  g := S.g
  len := by simp [S.len]
  val := fun j e h => by
    by_cases q : i = j
    · subst q
      rw [List.getElem?_set] at h
      rw [List.getElem?_set]
      have l := S.len
      split at h
      · split at h
        · cases h
          refine ⟨v, ?_, r⟩
          simp_all
        · cases h
      · rename_i z; exact absurd rfl z
    · rw [List.getElem?_set_ne q] at h
      rw [List.getElem?_set_ne q]
      exact S.val j e h
  own := fun j e h => by
    by_cases q : i = j
    · subst q
      rw [List.getElem?_set] at h
      split at h
      · split at h <;> cases h
      · rename_i z; exact absurd rfl z
    · rw [List.getElem?_set_ne q] at h
      rw [List.getElem?_set_ne q]
      exact S.own j e h
  dist := fun j k e u h1 h2 => by
    have t : ∀ (j : Nat) (e : OB), (env.set i (.val d))[j]? = some (.own e) → env[j]? = some (.own e) := fun j e h => by
      by_cases q : i = j
      · subst q
        rw [List.getElem?_set] at h
        split at h
        · split at h <;> cases h
        · rename_i z; exact absurd rfl z
      · rw [List.getElem?_set_ne q] at h; exact h
    exact S.dist j k e u (t _ _ h1) (t _ _ h2)
  fix := S.fix
/-- the slot of what is owned, given up -/
theorem Sig.give (S : Sig K b F oa σ H env) (e : env[i]? = some (.own o)) : ∃ F', Sig K b F' oa σ H (env.set i (.val o.d)) ∧ Ex F F' := by
  obtain ⟨h1, h2, h3, h4⟩ := S.own i o e
  obtain ⟨u, hu, r⟩ := h4.give h2
  refine ⟨upd F (oa i) u, ⟨S.g.give h2 h3 hu, by simp [S.len], fun j w h => ?_, fun j w h => ?_, fun j k w x p q z => ?_, S.fix⟩, Ex.new h2⟩
  · by_cases q : i = j
    · subst q
      rw [List.getElem?_set] at h
      split at h
      · split at h
        · cases h; exact ⟨_, h1, r⟩
        · cases h
      · rename_i z; exact absurd rfl z
    · rw [List.getElem?_set_ne q] at h
      obtain ⟨v, x, y⟩ := S.val j w h
      exact ⟨v, x, y.mono (Ex.new h2)⟩
  · by_cases q : i = j
    · subst q
      rw [List.getElem?_set] at h
      split at h
      · split at h <;> cases h
      · rename_i z; exact absurd rfl z
    · rw [List.getElem?_set_ne q] at h
      obtain ⟨x1, x2, x3, x4⟩ := S.own j w h
      refine ⟨x1, ?_, x3, x4.mono (Ex.new h2) fun _ y => y⟩
      rw [upd_ne fun z => q (S.dist j i w o h e z).symm]
      exact x2
  · have t : ∀ (j : Nat) (e : OB), (env.set i (.val o.d))[j]? = some (.own e) → env[j]? = some (.own e) := fun j e h => by
      by_cases q : i = j
      · subst q
        rw [List.getElem?_set] at h
        split at h
        · split at h <;> cases h
        · rename_i z; exact absurd rfl z
      · rw [List.getElem?_set_ne q] at h; exact h
    exact S.dist j k w x (t _ _ p) (t _ _ q) z
/-- less is known: every slot as it was, or not told -/
def Env.le : Env → Env → Prop
  | [], [] => True
  | a :: r, b :: s => (b = .any ∨ b = a) ∧ Env.le r s
  | _, _ => False
theorem Env.le.get : ∀ {env env' : Env} {i : Nat} {x : EV}, Env.le env env' → env'[i]? = some x → x = .any ∨ env[i]? = some x
  | [], [], _, _, _, h => by simp at h
  | _ :: _, _ :: _, 0, _, l, h => by
    simp at h; subst h
    rcases l.1 with q | q
    · exact .inl q
    · exact .inr (by rw [q]; rfl)
  | _ :: r, _ :: s, i + 1, _, l, h => by
    rcases Env.le.get (i := i) l.2 (by simpa using h) with q | q
    · exact .inl q
    · exact .inr (by simpa using q)
  | [], _ :: _, _, _, l, _ => l.elim
  | _ :: _, [], _, _, l, _ => l.elim
theorem Env.le.length : ∀ {env env' : Env}, Env.le env env' → env.length = env'.length
  | [], [], _ => rfl
  | _ :: _, _ :: _, l => by rw [List.length_cons, List.length_cons, Env.le.length l.2]
  | [], _ :: _, l => l.elim
  | _ :: _, [], l => l.elim
theorem Env.le.rfl : ∀ {env : Env}, Env.le env env
  | [] => trivial
  | _ :: _ => ⟨.inr (by rfl), Env.le.rfl⟩
theorem Sig.le (S : Sig K b F oa σ H env) (l : Env.le env env') : Sig K b F oa σ H env' where
  g := S.g
  len := by rw [S.len, l.length]
  val := fun i d e => by
    rcases l.get e with q | q
    · cases q
    · exact S.val i d q
  own := fun i o e => by
    rcases l.get e with q | q
    · cases q
    · exact S.own i o q
  dist := fun i j o u e f z => by
    rcases l.get e with q | q
    · cases q
    · rcases l.get f with p | p
      · cases p
      · exact S.dist i j o u q p z
  fix := S.fix
/-- a new one that no slot owns stands from now on -/
theorem Sig.stand {a : Addr} {u : HO} (S : Sig K b F oa σ H env) (n : F a = none) (n0 : b.H a = none) (ne : ∀ (j : Nat) (o : OB), env[j]? = some (.own o) → oa j ≠ a) (h : H a = some u) : Sig K b (upd F a u) oa σ H env where
  g := S.g.give n n0 h
  len := S.len
  val := fun i d e => by
    obtain ⟨v, h1, h2⟩ := S.val i d e
    exact ⟨v, h1, h2.mono (Ex.new n)⟩
  own := fun i o e => by
    obtain ⟨h1, h2, h3, h4⟩ := S.own i o e
    exact ⟨h1, by rw [upd_ne (ne i o e)]; exact h2, h3, h4.mono (Ex.new n) fun _ q => q⟩
  dist := S.dist
  fix := S.fix
end
end DL

namespace DL
open PySem L2

/-- what an expression gives: data that stands, or what a slot owns -/
inductive Res where
  | val (d : D) | slot (i : Nat)
def RR (K : PySem.W.Frag) (F : Hp) (oa : Nat → Addr) (v : V) : Res → Prop
  | .val d => Rep K F v d
  | .slot i => v = .ref (oa i)
/-- it reads as d -/
def Rd (env : Env) : Res → D → Prop
  | .val d, e => d = e
  | .slot i, e => ∃ o, env[i]? = some (.own o) ∧ o.d = e
section
variable {K : PySem.W.Frag} {b : Bs} {F F' H : Hp} {oa : Nat → Addr} {σ : L2.St} {env env' : Env} {v : V} {r : Res} {d : D} {l : List D}
theorem RR.mono (h : RR K F oa v r) (e : Ex F F') : RR K F' oa v r := by
  cases r with
  | val d => exact Rep.mono e h
  | slot i => exact h
theorem Rd.lst' (S : Sig K b F oa σ H env) (h : RR K F oa v r) (q : Rd env r (.lst l)) : ∃ a vs, v = .ref a ∧ H a = some (.lst vs) ∧ RepL K F vs l := by
  cases r with
  | val d =>
    cases (show d = .lst l from q)
    cases h with
    | lst x y => exact ⟨_, _, rfl, S.g.fh _ _ x, y⟩
  | slot i =>
    obtain ⟨o, e, z⟩ := q
    obtain ⟨_, _, _, x⟩ := S.own i o e
    cases o with
    | lst l' =>
      cases z
      obtain ⟨vs, x1, x2⟩ := x
      exact ⟨_, vs, h, x1, x2⟩
    | dic _ => cases z
    | dit _ => cases z
    | obj _ _ => cases z
theorem Rd.scr (S : Sig K b F oa σ H env) (h : RR K F oa v r) (q : Rd env r (.scr l)) : ∃ a vs, v = .ref a ∧ SqL K H a vs ∧ RepL K F vs l := by
  cases r with
  | val d =>
    cases (show d = .scr l from q)
    cases h with
    | scr x y => exact ⟨_, _, rfl, S.g.fh.l x, y⟩
  | slot i =>
    obtain ⟨o, e, z⟩ := q
    cases o <;> cases z
/-- a list to be read: one of the call's own, or the script -/
def RdL (env : Env) (r : Res) (k : List D) : Prop := Rd env r (.lst k) ∨ Rd env r (.scr k)
theorem RdL.g (S : Sig K b F oa σ H env) (h : RR K F oa v r) (q : RdL env r l) : ∃ a vs, v = .ref a ∧ SqL K H a vs ∧ RepL K F vs l := by
  rcases q with q | q
  · obtain ⟨a, vs, e, s, p⟩ := Rd.lst' S h q
    exact ⟨a, vs, e, .inl (.inl s), p⟩
  · exact Rd.scr S h q
theorem Rd.tup (S : Sig K b F oa σ H env) (h : RR K F oa v r) (q : Rd env r (.tup l)) : ∃ a vs, v = .ref a ∧ SqT K H a vs ∧ RepL K F vs l := by
  cases r with
  | val d =>
    cases (show d = .tup l from q)
    cases h with
    | tup x y => exact ⟨_, _, rfl, S.g.fh.t x, y⟩
  | slot i =>
    obtain ⟨o, e, z⟩ := q
    cases o <;> cases z
theorem Rd.flat (h : RR K F oa v r) (q : Rd env r d) (f : flat d = true) : Rep K F v d := by
  cases r with
  | val e => cases (show e = d from q); exact h
  | slot i =>
    obtain ⟨o, e, z⟩ := q
    cases o <;> (subst z; cases f)
/-- read as it stands in the whole heap -/
theorem Rd.rep (S : Sig K b F oa σ H env) (h : RR K F oa v r) (q : Rd env r d) : Rep K H v d := by
  cases r with
  | val e => cases (show e = d from q); exact Rep.mono S.g.fh h
  | slot i =>
    obtain ⟨o, e, z⟩ := q
    subst z
    cases (show v = .ref (oa i) from h)
    obtain ⟨_, _, _, x⟩ := S.own i o e
    cases o with
    | lst l' => obtain ⟨vs, x1, x2⟩ := x; exact .lst x1 (x2.mono S.g.fh)
    | dic l' => obtain ⟨ks, vs, ds, x1, x2, x3, x4⟩ := x; subst x4; exact .dic x1 x2 (x3.mono S.g.fh)
    | dit l' => obtain ⟨ks, vs, ds, x1, x2, x3, x4⟩ := x; subst x4; exact .dit x1 x2 (x3.mono S.g.fh)
    | obj C fs => obtain ⟨dx, ks, vs, ds, x1, x2, x3, x4⟩ := x; subst x4; exact .obj x1 x2 (x3.mono S.g.fh)
end

/-- what a step leaves: what stands stands; what no slot owns is as it was -/
structure Stp (oa : Nat → Addr) (env : Env) (F H : Hp) (env' : Env) (F' H' : Hp) : Prop where
  ff : Ex F F'
  kp : ∀ a u, H a = some u → (∀ (j : Nat) (o : OB), env[j]? = some (.own o) → oa j ≠ a) → H' a = some u
  gn : ∀ a, F' a ≠ none → F a ≠ none ∨ H a = none
  th : ∀ a, H a ≠ none → H' a ≠ none
  sub : ∀ (j : Nat) (o : OB), env'[j]? = some (.own o) → ∃ o', env[j]? = some (.own o')
section
variable {K : PySem.W.Frag} {b : Bs} {F F1 F2 H H1 H2 : Hp} {oa : Nat → Addr} {σ : L2.St} {env e1 e2 : Env} {p : Addr} {u : HO}
theorem Stp.refl : Stp oa env F H env F H := ⟨Ex.refl _, fun _ _ h _ => h, fun _ h => .inl h, fun _ h => h, fun j o h => ⟨o, h⟩⟩
theorem Stp.trans (x : Stp oa env F H e1 F1 H1) (y : Stp oa e1 F1 H1 e2 F2 H2) : Stp oa env F H e2 F2 H2 := ⟨x.ff.trans y.ff, fun a u h n => y.kp a u (x.kp a u h n) fun j o e => by
    obtain ⟨o', e'⟩ := x.sub j o e
    exact n j o' e', fun a h => by
    rcases y.gn a h with z | z
    · exact x.gn a z
    · refine .inr ?_
      cases w : H a with
      | none => rfl
      | some v => exact absurd z (x.th a (by rw [w]; simp)), fun a h => y.th a (x.th a h), fun j o e => by
    obtain ⟨o', e'⟩ := y.sub j o e
    exact x.sub j o' e'⟩
theorem Stp.new (n : H p = none) (nf : F p = none) : Stp oa env F H env (upd F p u) (upd H p u) := ⟨Ex.new nf, fun a v h _ => Ex.new n a v h, fun a h => by
    by_cases q : a = p
    · subst q; exact .inr n
    · rw [upd_ne q] at h; exact .inl h, fun a h z => h ((Ex.new n).back z), fun j o e => ⟨o, e⟩⟩
theorem Stp.newH (n : H p = none) : Stp oa env F H env F (upd H p u) := ⟨Ex.refl _, fun a v h _ => Ex.new n a v h, fun a h => .inl h, fun a h z => h ((Ex.new n).back z), fun j o e => ⟨o, e⟩⟩
theorem Stp.none (x : Stp oa env F H e1 F1 H1) (n : H1 p = none) : H p = none := by
  cases w : H p with
  | none => rfl
  | some v => exact absurd n (x.th p (by rw [w]; simp))
end

def Ev (K : PySem.W.Frag) (te : TE) (env : Env) (r : Res) (env' : Env) : Prop := ∀ (b : Bs) (F : Hp) (oa : Nat → Addr) (σ : L2.St) (H : Hp), Sig K b F oa σ H env → ∀ Q : VK,
  (∀ v F' H', Sig K b F' oa σ H' env' → Stp oa env F H env' F' H' → RR K F' oa v r → Q v H') → te σ H Q
/-- a new object that nobody has yet -/
def NewAt (K : PySem.W.Frag) (b : Bs) (F : Hp) (oa : Nat → Addr) (H : Hp) (env : Env) (a : Addr) (o : OB) : Prop :=
  F a = none ∧ b.H a = none ∧ (∀ (j : Nat) (u : OB), env[j]? = some (.own u) → oa j ≠ a) ∧ (∀ j, b.fx j ≠ some a) ∧ ORep K F H a o
def EvN (K : PySem.W.Frag) (te : TE) (env : Env) (o : OB) (env' : Env) : Prop := ∀ (b : Bs) (F : Hp) (oa : Nat → Addr) (σ : L2.St) (H : Hp), Sig K b F oa σ H env → ∀ Q : VK,
  (∀ a F' H', Sig K b F' oa σ H' env' → Stp oa env F H env' F' H' → H a = none → NewAt K b F' oa H' env' a o → Q (.ref a) H') → te σ H Q
def RRs (K : PySem.W.Frag) (F : Hp) (oa : Nat → Addr) : List V → List Res → Prop
  | [], [] => True
  | v :: vs, r :: rs => RR K F oa v r ∧ RRs K F oa vs rs
  | _, _ => False
theorem RRs.mono {K : PySem.W.Frag} {F F' : Hp} {oa : Nat → Addr} (e : Ex F F') : ∀ {vs : List V} {rs : List Res}, RRs K F oa vs rs → RRs K F' oa vs rs
  | [], [], _ => trivial
  | _ :: _, _ :: _, h => ⟨h.1.mono e, RRs.mono e h.2⟩
  | [], _ :: _, h => h.elim
  | _ :: _, [], h => h.elim
section
variable {K : PySem.W.Frag} {te ta tb tc : TE} {t u : TT} {env e1 e2 e3 : Env} {r r1 r2 : Res} {d : D} {o : OB} {i j : Nat} {n m : Int}
theorem Ev.give (h : EvN K te env o e1) : Ev K te env (.val o.d) e1 := fun b F oa σ H S Q k => h b F oa σ H S Q fun a F' H' S' e na ⟨n, n0, ne, _, x⟩ => by
  obtain ⟨u, hu, r⟩ := x.give n
  refine k _ _ _ (S'.stand n n0 ne hu) ⟨e.ff.trans (Ex.new n), e.kp, fun c h => ?_, e.th, e.sub⟩ r
  by_cases q : c = a
  · subst q; exact .inr na
  · rw [upd_ne q] at h; exact e.gn c h
end
end DL

namespace DL
open PySem L2

/-! ### operators by all that they serve -/
theorem OpR.or {X : Cx} {f : Value → Value → Sem Value} {r1 r2 : R2} (h1 : OpR X f r1) (h2 : OpR X f r2) : OpR X f (fun x y H Q => r1 x y H Q ∨ r2 x y H Q) := by
  intro pins s σ H x y v u Q I rx ry h
  rcases h with h | h
  · exact h1 pins s σ H x y v u Q I rx ry h
  · exact h2 pins s σ H x y v u Q I rx ry h
theorem CallR.or {X : Cx} {f : Value} {r1 r2 : List V → Hp → VK → Prop} (h1 : CallR X f r1) (h2 : CallR X f r2) : CallR X f (fun xs H Q => r1 xs H Q ∨ r2 xs H Q) := by
  intro pins s σ H xs us Q I r h
  rcases h with h | h
  · exact h1 pins s σ H xs us Q I r h
  · exact h2 pins s σ H xs us Q I r h
def rS : R2 := fun x y H Q => ∃ i j, x = .str i ∧ y = .str j ∧ i.length + j.length ≤ sizeLine ∧ Q (.str (i ++ j)) H
def rAddU (K : PySem.W.Frag) : R2 := fun x y H Q => rI0 (fun i j => .int (i + j)) x y H Q ∨ (rS x y H Q ∨ (rCatA K x y H Q ∨ rCat x y H Q))
theorem op_addU {X : Cx} {K : PySem.W.Frag} (e : X.K = K := by rfl) : OpR X (binaryOp .Add) (rAddU K) := by subst e; exact OpR.or op_add (OpR.or op_add_str (OpR.or op_catA op_cat))
def rSubU : R2 := rI0 fun i j => .int (i - j)
theorem op_subU {X : Cx} : OpR X (binaryOp .Sub) rSubU := op_sub
def rMulU : R2 := fun x y H Q => rI CMul (fun i j => .int (i * j)) x y H Q ∨ (rI CMulX (fun i j => .int (i * j)) x y H Q ∨ rRep x y H Q)
theorem op_mulU {X : Cx} : OpR X (binaryOp .Mult) rMulU := OpR.or op_mul (OpR.or op_mulX op_rep)
def rDivU : R2 := rI CDivW fun i j => .int (i / j)
theorem op_divU {X : Cx} : OpR X (binaryOp .FloorDiv) rDivU := op_fdivW
def rModU : R2 := rI (fun _ j => 0 < j) fun i j => .int (i % j)
theorem op_modU {X : Cx} : OpR X (binaryOp .Mod) rModU := op_mod
def rPowU : R2 := rI CPow fun i j => .int (i ^ j.toNat)
theorem op_powU {X : Cx} : OpR X (binaryOp .Pow) rPowU := op_pow
def rShlU : R2 := rI CShl fun i j => .int (i * 2 ^ j.toNat)
theorem op_shlU {X : Cx} : OpR X (binaryOp .LShift) rShlU := op_shlW
def rShrU : R2 := rI (fun _ j => 0 ≤ j) fun i j => .int (i / 2 ^ j.toNat)
theorem op_shrU {X : Cx} : OpR X (binaryOp .RShift) rShrU := op_shr
def rAndU : R2 := rI0 fun i j => .int (Builtin.bitAnd i j)
theorem op_andU {X : Cx} : OpR X (binaryOp .BitAnd) rAndU := op_and
def rOrU : R2 := rI0 fun i j => .int (Builtin.bitOr i j)
theorem op_orU {X : Cx} : OpR X (binaryOp .BitOr) rOrU := op_or
def rXorU : R2 := rI0 fun i j => .int (Builtin.bitXor i j)
theorem op_xorU {X : Cx} : OpR X (binaryOp .BitXor) rXorU := op_xor
def rLtU : R2 := rI0 fun i j => .bl (decide (i < j))
def rLeU : R2 := rI0 fun i j => .bl (decide (i ≤ j))
def rGtU : R2 := rI0 fun i j => .bl (decide (j < i))
def rGeU : R2 := rI0 fun i j => .bl (decide (j ≤ i))
theorem op_ltU {X : Cx} : OpR X (compareOp .Lt) rLtU := op_lt
theorem op_leU {X : Cx} : OpR X (compareOp .LtE) rLeU := op_le
theorem op_gtU {X : Cx} : OpR X (compareOp .Gt) rGtU := op_gt
theorem op_geU {X : Cx} : OpR X (compareOp .GtE) rGeU := op_ge
def rIsNn : R2 := fun x y H Q => y = .non ∧ Q (.bl (decide (x = .non))) H
def rNotNn : R2 := fun x y H Q => y = .non ∧ Q (.bl (!decide (x = .non))) H
def rIsU : R2 := fun x y H Q => rIsNn x y H Q ∨ rIsB x y H Q
def rNotU : R2 := fun x y H Q => rNotNn x y H Q ∨ rNotB x y H Q
theorem op_isU {X : Cx} : OpR X (compareOp .Is) rIsU := OpR.or op_isN op_isBl
theorem op_notU {X : Cx} : OpR X (compareOp .IsNot) rNotU := OpR.or op_notN op_notBl
def rLen1 (K : PySem.W.Frag) : List V → Hp → VK → Prop := fun xs H Q => ∃ x n, xs = [x] ∧ LenV K x H n ∧ Q (.int n) H
def rLen2 : List V → Hp → VK → Prop := fun xs H Q => ∃ a kvs, xs = [V.ref a] ∧ H a = some (.dK kvs) ∧ Q (.int kvs.length) H
def rLenU (K : PySem.W.Frag) : List V → Hp → VK → Prop := fun xs H Q => rLen1 K xs H Q ∨ rLen2 xs H Q
theorem call_lenU {X : Cx} {K : PySem.W.Frag} (e : X.K = K := by rfl) : CallR X (.builtin "len") (rLenU K) := by subst e; exact CallR.or call_len call_lenD
theorem call_allU {X : Cx} {K : PySem.W.Frag} (hc : X.calm = true) (e : X.K = K := by rfl) : CallR X (.builtin "all") (rAll K) := by subst e; exact cr_all hc
theorem call_sumU {X : Cx} {K : PySem.W.Frag} (hc : X.calm = true) (e : X.K = K := by rfl) : CallR X (.builtin "sum") (rSum K) := by subst e; exact cr_sum hc
theorem ix_U {X : Cx} {K : PySem.W.Frag} (e : X.K = K := by rfl) : IxR X (rIx K) := by subst e; exact ix_seq
def rAbs : List V → Hp → VK → Prop := fun xs H Q => ∃ i, xs = [.int i] ∧ Q (.int (if i < 0 then -i else i)) H
theorem call_absU {X : Cx} : CallR X (.builtin "abs") rAbs := call_abs
def rMax2 : List V → Hp → VK → Prop := fun xs H Q => ∃ i j, xs = [.int i, .int j] ∧ Q (.int (if j > i then j else i)) H
def rMin2 : List V → Hp → VK → Prop := fun xs H Q => ∃ i j, xs = [.int i, .int j] ∧ Q (.int (if j < i then j else i)) H
theorem call_max2U {X : Cx} (hc : X.calm = true) : CallR X (.builtin "max") rMax2 := call_max2 hc
theorem call_min2U {X : Cx} (hc : X.calm = true) : CallR X (.builtin "min") rMin2 := call_min2 hc
def rInt1 : List V → Hp → VK → Prop := fun xs H Q => (∃ i, xs = [.int i] ∧ Q (.int i) H) ∨ ∃ k, xs = [.bl k] ∧ Q (.int (if k then 1 else 0)) H
theorem call_intU {X : Cx} : CallR X (.type "int") rInt1 := call_int1
def rListOf (K : PySem.W.Frag) : List V → Hp → VK → Prop := fun xs H Q => ∃ p ys, xs = [.ref p] ∧ (SqL K H p ys ∨ SqT K H p ys) ∧ ∀ l, H l = none → Q (.ref l) (upd H l (.lst ys))
theorem call_listU {X : Cx} {K : PySem.W.Frag} (e : X.K = K := by rfl) : CallR X (.type "list") (rListOf K) := by subst e; exact call_list_of
def rTupleOf (K : PySem.W.Frag) : List V → Hp → VK → Prop := fun xs H Q => ∃ p ys, xs = [.ref p] ∧ ((SqL K H p ys ∧ ∀ l, H l = none → Q (.ref l) (upd H l (.tup ys))) ∨ (SqT K H p ys ∧ Q (.ref p) H))
theorem call_tupleU {X : Cx} {K : PySem.W.Frag} (e : X.K = K := by rfl) : CallR X (.type "tuple") (rTupleOf K) := by subst e; exact call_tuple_of
def rSlU (K : PySem.W.Frag) : V → Option Int → Option Int → Hp → VK → Prop := fun x lo hi H Q => rSlL K x lo hi H Q ∨ (rSlA K x lo hi H Q ∨ rSlS x lo hi H Q)
theorem SlR.or {X : Cx} {r1 r2 : V → Option Int → Option Int → Hp → VK → Prop} (h1 : SlR X r1) (h2 : SlR X r2) : SlR X (fun x l u H Q => r1 x l u H Q ∨ r2 x l u H Q) := by
  intro pins s σ H x v vl vu l u sl Q I rx hs pl pu h
  rcases h with h | h
  · exact h1 pins s σ H x v vl vu l u sl Q I rx hs pl pu h
  · exact h2 pins s σ H x v vl vu l u sl Q I rx hs pl pu h
theorem sl_U {X : Cx} {K : PySem.W.Frag} (e : X.K = K := by rfl) : SlR X (rSlU K) := by subst e; exact SlR.or sl_list (SlR.or sl_tupA sl_str)

/-! ### PyData of data -/
mutual
def py : D → Option PyData
  | .non => some .none
  | .bl b => some (.bool b)
  | .int i => some (.int i)
  | .str x => some (.str x)
  | .tup l => (pys l).map .tuple
  | .lst l => (pys l).map .list
  | .ty _ => none
  | .scr _ => none
  | .ref _ => none
  | .dic _ => none
  | .dit _ => none
  | .obj _ _ => none
  | .exc _ => none
def pys : List D → Option (List PyData)
  | [] => some []
  | d :: r => match py d, pys r with
    | some x, some y => some (x :: y)
    | _, _ => none
end
mutual
theorem Rep.dp {K : PySem.W.Frag} {H : Hp} : ∀ {v : V} {d : D} {p : PyData}, Rep K H v d → py d = some p → Dp K H v p
  | _, _, _, .non, e => by unfold py at e; cases e; exact .non
  | _, _, _, .bl b, e => by unfold py at e; cases e; exact .bl b
  | _, _, _, .int b, e => by unfold py at e; cases e; exact .int b
  | _, _, _, .str b, e => by unfold py at e; cases e; exact .str b
  | _, _, _, .tup (l := l) h r, e => by
    unfold py at e
    cases q : pys l with
    | none => rw [q] at e; cases e
    | some x => rw [q] at e; cases e; exact .tup h (RepL.dp r q)
  | _, _, _, .lst (l := l) h r, e => by
    unfold py at e
    cases q : pys l with
    | none => rw [q] at e; cases e
    | some x => rw [q] at e; cases e; exact .lst (.inl (.inl h)) (RepL.dp r q)
  | _, _, _, .ty _, e => by unfold py at e; cases e
  | _, _, _, .scr _ _, e => by unfold py at e; cases e
  | _, _, _, .ref _, e => by unfold py at e; cases e
  | _, _, _, .dic _ _ _, e => by unfold py at e; cases e
  | _, _, _, .dit _ _ _, e => by unfold py at e; cases e
  | _, _, _, .obj _ _ _, e => by unfold py at e; cases e
  | _, _, _, .exc _, e => by unfold py at e; cases e
theorem RepL.dp {K : PySem.W.Frag} {H : Hp} : ∀ {vs : List V} {ds : List D} {ps : List PyData}, RepL K H vs ds → pys ds = some ps → DpAll K H vs ps
  | _, _, _, .nil, e => by unfold pys at e; cases e; exact .nil
  | _, _, _, .cons (d := d) (ds := ds) h r, e => by
    unfold pys at e
    cases q1 : py d with
    | none => rw [q1] at e; cases e
    | some x =>
      cases q2 : pys ds with
      | none => rw [q1, q2] at e; cases e
      | some y => rw [q1, q2] at e; cases e; exact .cons (Rep.dp h q1) (RepL.dp r q2)
end
section
variable {K : PySem.W.Frag} {te ta tb tc : TE} {t u : TT} {env e1 e2 e3 : Env} {r r1 r2 : Res} {d d1 d2 : D} {o : OB} {i j : Int} {x y : Str} {c c1 c2 : Bool} {l m : List D}
/-! ### operators -/
def isNon : D → Bool
  | .non => true
  | _ => false
theorem rep_non {F : Hp} {v : V} (h : Rep K F v d) : decide (v = V.non) = isNon d := by
  cases h <;> first | rfl | simp [isNon]
/-! ### tests -/
/-! ### calls of built-ins -/
end
end DL

namespace DL
open PySem L2

section
variable {K : PySem.W.Frag} {te ta tb tc : TE} {t u : TT} {env e1 e2 e3 : Env} {r r1 r2 : Res} {d d1 d2 : D} {o : OB} {i j : Int} {x y : Str} {c c1 c2 : Bool} {l m : List D}
/-! ### isinstance -/
/-! ### subscripts -/
def cutD {α : Type} (xs : List α) (lo hi : Option Int) : List α := (xs.drop (HT.sIx xs.length 0 lo)).take (HT.sIx xs.length xs.length hi - HT.sIx xs.length 0 lo)
theorem cut_rep {F : Hp} {vs : List V} {lo hi : Option Int} (h : RepL K F vs l) : RepL K F (cutV vs lo hi) (cutD l lo hi) := by
  unfold cutV cutD
  rw [h.length]
  exact (h.drop _).take _
/-! ### displays, list(..), tuple(..), + -/
/-! ### what is walked -/
/-- both: for x in e, by what e is -/
def iSeqU (K : PySem.W.Frag) (te : TE) : TI := fun σ H R => iList K te σ H R ∨ (iTup K te σ H R ∨ iStr te σ H R)
theorem PI.or {X : Cx} {tg e : Expr} {w1 w2 : TI} (h1 : PI X tg e w1) (h2 : PI X tg e w2) : PI X tg e (fun σ H R => w1 σ H R ∨ w2 σ H R) := ⟨fun pins s σ H R I h => by
  rcases h with h | h
  · exact h1.run pins s σ H R I h
  · exact h2.run pins s σ H R I h⟩
theorem pi_seqU {X : Cx} {K : PySem.W.Frag} {tg e : Expr} {te : TE} (h : PE X e te) (q : X.K = K := by rfl) : PI X tg e (iSeqU K te) := by subst q; exact PI.or (pi_list h) (PI.or (pi_tup h) (pi_str h))
/-- the ints of a range -/
def rng (lo : Int) (n : Nat) : List D := (List.range n).map fun i => .int (lo + (i : Nat))
def rngC (lo c : Int) (n : Nat) : List D := (List.range n).map fun i => .int (lo + (i : Nat) * c)
theorem rng_get {lo : Int} {n i : Nat} {d : D} (h : (rng lo n)[i]? = some d) : d = .int (lo + (i : Nat)) ∧ i < n := by
  unfold rng at h
  rw [List.getElem?_map] at h
  by_cases q : i < n
  · rw [List.getElem?_range q] at h; cases h; exact ⟨rfl, q⟩
  · rw [List.getElem?_eq_none (by simpa using Nat.le_of_not_lt q)] at h; cases h
theorem rngC_get {lo c : Int} {n i : Nat} {d : D} (h : (rngC lo c n)[i]? = some d) : d = .int (lo + (i : Nat) * c) ∧ i < n := by
  unfold rngC at h
  rw [List.getElem?_map] at h
  by_cases q : i < n
  · rw [List.getElem?_range q] at h; cases h; exact ⟨rfl, q⟩
  · rw [List.getElem?_eq_none (by simpa using Nat.le_of_not_lt q)] at h; cases h
theorem rng_len {lo : Int} {n : Nat} : (rng lo n).length = n := by unfold rng; simp
theorem rngC_len {lo c : Int} {n : Nat} : (rngC lo c n).length = n := by unfold rngC; simp
end
end DL

namespace DL
open PySem L2

/-! ### targets -/
section
variable {K : PySem.W.Frag} {te ta tb tc : TE} {t u : TT} {env env' e1 e2 e3 : Env} {r r1 r2 : Res} {d d1 d2 : D} {o : OB} {i j : Nat} {c c1 c2 : Bool} {l m : List D} {g : TG}
/-! ### comprehensions -/
def wipeE (env : Env) : List Nat → Env
  | [] => env
  | v :: vs => (wipeE env vs).set v .any
theorem wipeE_len (env : Env) : ∀ vs : List Nat, (wipeE env vs).length = env.length
  | [] => rfl
  | v :: vs => by unfold wipeE; rw [List.length_set, wipeE_len env vs]
theorem wipeE_get {x : EV} : ∀ {vs : List Nat} {i : Nat}, (wipeE env vs)[i]? = some x → x = .any ∨ (i ∉ vs ∧ env[i]? = some x)
  | [], i, h => .inr ⟨by simp, h⟩
  | v :: vs, i, h => by
    unfold wipeE at h
    by_cases q : v = i
    · subst q
      rw [List.getElem?_set] at h
      split at h
      · split at h
        · cases h; exact .inl rfl
        · cases h
      · rename_i z; exact absurd rfl z
    · rw [List.getElem?_set_ne q] at h
      rcases wipeE_get h with z | ⟨z1, z2⟩
      · exact .inl z
      · exact .inr ⟨by simp only [List.mem_cons, not_or]; exact ⟨fun z => q z.symm, z1⟩, z2⟩
theorem wipe_out {σ : L2.St} : ∀ {vs : List Nat} {i : Nat}, i ∉ vs → (wipe σ vs)[i]? = σ[i]?
  | [], _, _ => rfl
  | v :: vs, i, h => by
    simp only [List.mem_cons, not_or] at h
    unfold wipe
    rw [List.getElem?_set_ne (Ne.symm h.1), wipe_out h.2]
theorem Sig.wiped {b : Bs} {F : Hp} {oa : Nat → Addr} {σ : L2.St} {H : Hp} (S : Sig K b F oa σ H env) (vs : List Nat) : Sig K b F oa (L2.wipe σ vs) H (wipeE env vs) where
  g := S.g
  len := by rw [wipe_length, wipeE_len, S.len]
  val := fun i d e => by
    rcases wipeE_get e with q | ⟨q, e⟩
    · cases q
    · rw [wipe_out q]; exact S.val i d e
  own := fun i o e => by
    rcases wipeE_get e with q | ⟨q, e⟩
    · cases q
    · rw [wipe_out q]; exact S.own i o e
  dist := fun i j o u e f z => by
    rcases wipeE_get e with q | ⟨_, e⟩
    · cases q
    · rcases wipeE_get f with q | ⟨_, f⟩
      · cases q
      · exact S.dist i j o u e f z
  fix := S.fix
/-- behind a turn: the slots vs as they were ahead, the others as they are -/
def back (vs : List Nat) : Nat → Env → Env → Env
  | n, a :: r, x :: s => (if vs.contains n then a else x) :: back vs (n + 1) r s
  | _, _, _ => []
end
end DL

namespace DL
open PySem L2

/-- what a def hands back -/
inductive Ret where
  | val (d : D) | new (o : OB) | exc (C : Addr)
def RetR (K : PySem.W.Frag) (b : Bs) (F : Hp) (H : Hp) (v : V) : Ret → Prop
  | .val d => Rep K F v d
  | .new o => ∃ a, v = .ref a ∧ F a = none ∧ b.H a = none ∧ (∀ j, b.fx j ≠ some a) ∧ ORep K F H a o
  | .exc _ => False
structure Sat (K : PySem.W.Frag) (b : Bs) (F : Hp) (W : WX) (D : Ends) (N B C : Env → Prop) (R : Ret → Env → Prop) : Prop where
  nx : ∀ env F' oa σ H, N env → Sig K b F' oa σ H env → Ex F F' → D.nx σ H
  bk : ∀ env F' oa σ H, B env → Sig K b F' oa σ H env → Ex F F' → D.bk σ H
  ct : ∀ env F' oa σ H, C env → Sig K b F' oa σ H env → Ex F F' → D.ct σ H
  rt : ∀ r env F' oa σ H v, R r env → Sig K b F' oa σ H env → Ex F F' → RetR K b F' H v r → D.rt v H
  xc : ∀ X env F' oa σ H, R (.exc X) env → Sig K b F' oa σ H env → Ex F F' → W (.ref X) none σ H
theorem Sat.mono {K : PySem.W.Frag} {b : Bs} {F F1 : Hp} {W : WX} {D : Ends} {N B C : Env → Prop} {R : Ret → Env → Prop} (s : Sat K b F W D N B C R) (e : Ex F F1) : Sat K b F1 W D N B C R :=
  ⟨fun env F' oa σ H h S x => s.nx env F' oa σ H h S (e.trans x), fun env F' oa σ H h S x => s.bk env F' oa σ H h S (e.trans x), fun env F' oa σ H h S x => s.ct env F' oa σ H h S (e.trans x), fun r env F' oa σ H v h S x q => s.rt r env F' oa σ H v h S (e.trans x) q, fun X env F' oa σ H h S x => s.xc X env F' oa σ H h S (e.trans x)⟩
/-- a statement: from env it goes on (N), breaks (B), continues (C), or hands back (R); pr: the slots whose objects were handed in to be changed -/
def Exec (K : PySem.W.Frag) (pr : List Nat) (W : WX) (t : TS) (env : Env) (N B C : Env → Prop) (R : Ret → Env → Prop) : Prop := ∀ (b : Bs) (F : Hp) (oa : Nat → Addr) (σ : L2.St) (H : Hp) (D : Ends),
  (∀ i, b.fx i ≠ none → i ∈ pr) → Sig K b F oa σ H env → Sat K b F W D N B C R → t D σ H

section
variable {K : PySem.W.Frag} {pr : List Nat} {W : WX} {te ta tb tc : TE} {t u : TT} {s s1 s2 : TS} {env env' e1 e2 e3 : Env} {r r1 r2 : Res} {d d1 d2 : D} {o : OB} {i j : Nat} {c c1 c2 : Bool} {l m : List D} {g : TG} {N N' B B' C C' : Env → Prop} {R R' : Ret → Env → Prop}
theorem x_mono (h : Exec K pr W s env N B C R) (hn : ∀ e, N e → N' e) (hb : ∀ e, B e → B' e) (hc : ∀ e, C e → C' e) (hr : ∀ r e, R r e → R' r e) : Exec K pr W s env N' B' C' R' := fun b F oa σ H D hp S st =>
  h b F oa σ H D hp S ⟨fun env F oa σ H h S => st.nx env F oa σ H (hn _ h) S, fun env F oa σ H h S => st.bk env F oa σ H (hb _ h) S, fun env F oa σ H h S => st.ct env F oa σ H (hc _ h) S, fun r env F oa σ H v h S x q => st.rt r env F oa σ H v (hr _ _ h) S x q, fun X env F oa σ H h S x => st.xc X env F oa σ H (hr _ _ h) S x⟩
end

/-! ### promises -/
/-- an argument: data, or an object handed in to be changed -/
inductive AV where
  | val (d : D) | own (o : OB)
structure ArgsR (K : PySem.W.Frag) (F H : Hp) (vs : List V) (as : List AV) : Prop where
  len : vs.length = as.length
  val : ∀ (i : Nat) (d : D), as[i]? = some (.val d) → ∃ v, vs[i]? = some v ∧ Rep K F v d
  own : ∀ (i : Nat) (o : OB), as[i]? = some (.own o) → ∃ a, vs[i]? = some (.ref a) ∧ F a = none ∧ ORep K F H a o
  dist : ∀ (i j : Nat) (o u : OB) (a : Addr), as[i]? = some (.own o) → as[j]? = some (.own u) → vs[i]? = some (.ref a) → vs[j]? = some (.ref a) → i = j
/-- an address of an object that was handed in to be changed -/
def ownA (vs : List V) (as : List AV) (a : Addr) : Prop := ∃ (i : Nat) (o : OB), as[i]? = some (.own o) ∧ vs[i]? = some (.ref a)
structure CallEnd (K : PySem.W.Frag) (F H F' H' : Hp) (vs : List V) (as as' : List AV) (v : V) (r : Ret) : Prop where
  ff : Ex F F'
  fh : Ex F' H'
  kp : ∀ a u, H a = some u → ¬ ownA vs as a → H' a = some u
  gn : ∀ a, F' a ≠ none → F a ≠ none ∨ H a = none
  th : ∀ a, H a ≠ none → H' a ≠ none
  own : ∀ (i : Nat) (o : OB), as[i]? = some (.own o) → ∃ o' a, as'[i]? = some (.own o') ∧ vs[i]? = some (.ref a) ∧ F' a = none ∧ ORep K F' H' a o'
  ret : match r with
    | .val d => Rep K F' v d
    | .new o => ∃ a, v = .ref a ∧ F' a = none ∧ H a = none ∧ ORep K F' H' a o
    | .exc _ => True
/-- what is wanted of what came -/
def outR (r : Ret) (E : XK) (Q : VK) (v : V) (H : Hp) : Prop := match r with
  | .exc C => E (.ref C) none H
  | _ => Q v H
/-- THE PROMISE: from arguments as it hands back r and leaves them as' -/
def SpG (K : PySem.W.Frag) (P : List AV → Ret → List AV → Prop) : Sp := fun vs H Q E => ∃ F as r as', Ex F H ∧ ArgsR K F H vs as ∧ P as r as' ∧ ∀ v F' H', CallEnd K F H F' H' vs as as' v r → outR r E Q v H'
def AV.ev : AV → EV
  | .val d => .val d
  | .own o => .own o
open Classical in
noncomputable def hideA (vs : List V) (as : List AV) (H : Hp) : Hp := fun a => if ownA vs as a then none else H a
theorem hideA_ex {vs : List V} {as : List AV} {H : Hp} : Ex (hideA vs as H) H := fun a o e => by
  unfold hideA at e
  split at e
  · cases e
  · exact e
/-- what was handed in is in its slots yet -/
def Held (as as' : List AV) (e : Env) : Prop := ∀ (i : Nat) (o : OB), as[i]? = some (AV.own o) → ∃ o', as'[i]? = some (AV.own o') ∧ e[i]? = some (EV.own o')
/-- a def's body keeps its promise -/
theorem run_SpG {K : PySem.W.Frag} {P : List AV → Ret → List AV → Prop} {Nm : List Str} {n : Nat} {t : TS} {vs : List V} {H : Hp} {Q : VK} {E : XK} (h : SpG K P vs H Q E) (hn : ∀ as r as', P as r as' → as.length = n ∧ n ≤ Nm.length)
    (body : ∀ as r as', P as r as' → ∃ pr : List Nat, (∀ (i : Nat) (o : OB), as[i]? = some (AV.own o) → i ∈ pr) ∧ Exec K pr (fun cls d _ H => E cls d H) t (as.map AV.ev ++ List.replicate (Nm.length - n) .any)
      (fun e => r = .val .non ∧ Held as as' e) (fun _ => False) (fun _ => False) (fun q e => q = r ∧ Held as as' e)) :
    t { nx := fun _ H' => Q .non H', rt := Q } (L2.start Nm vs) H := by
  obtain ⟨F, as, r, as', e, ar, p, k⟩ := h
  obtain ⟨hl, hnm⟩ := hn as r as' p
  obtain ⟨pr, hpr, hx⟩ := body as r as' p
  have lvs : vs.length = n := by rw [ar.len, hl]
  have stg : ∀ (i : Nat) (v : V), vs[i]? = some v → (L2.start Nm vs)[i]? = some (some v) := fun i v h => by
    unfold L2.start
    have hi : i < vs.length := (List.getElem?_eq_some_iff.mp h).1
    rw [List.getElem?_append_left (by simpa using hi), List.getElem?_map, h]; rfl
  have evg : ∀ (i : Nat) (x : EV), (as.map AV.ev ++ List.replicate (Nm.length - n) .any)[i]? = some x → x = .any ∨ ∃ a, as[i]? = some a ∧ x = a.ev := fun i x h => by
    by_cases hi : i < as.length
    · rw [List.getElem?_append_left (by simpa using hi), List.getElem?_map] at h
      cases z : as[i]? with
      | none => rw [z] at h; cases h
      | some a => rw [z] at h; cases h; exact .inr ⟨a, rfl, rfl⟩
    · rw [List.getElem?_append_right (by simpa using Nat.le_of_not_lt hi)] at h
      have := List.getElem?_eq_some_iff.mp h
      obtain ⟨h1, h2⟩ := this
      rw [List.getElem_replicate] at h2
      exact .inl h2.symm
  have evo : ∀ (i : Nat) (o : OB), (as.map AV.ev ++ List.replicate (Nm.length - n) .any)[i]? = some (.own o) → as[i]? = some (.own o) := fun i o h => by
    rcases evg i _ h with z | ⟨a, h1, h2⟩
    · cases z
    · cases a with
      | val d => cases h2
      | own u => cases h2; exact h1
  -- the addresses
  let oa : Nat → Addr := fun i => match vs[i]? with
    | some (.ref a) => a
    | _ => 0
  have oav : ∀ (i : Nat) (a : Addr), vs[i]? = some (.ref a) → oa i = a := fun i a h => by show (match vs[i]? with | some (.ref a) => a | _ => 0) = a; rw [h]
  let fx : Nat → Option Addr := fun i => match as[i]? with
    | some (.own _) => some (oa i)
    | _ => none
  have fxs : ∀ i a, fx i = some a → ∃ o, as[i]? = some (.own o) ∧ a = oa i := fun i a h => by
    have h' : (match as[i]? with | some (.own _) => some (oa i) | _ => none) = some a := h
    cases z : as[i]? with
    | none => rw [z] at h'; cases h'
    | some x =>
      rw [z] at h'
      cases x with
      | val d => cases h'
      | own o => cases h'; exact ⟨o, rfl, rfl⟩
  have hidN : ∀ (i : Nat) (o : OB) (a : Addr), as[i]? = some (.own o) → vs[i]? = some (.ref a) → hideA vs as H a = none := fun i o a h1 h2 => by
    unfold hideA
    rw [if_pos ⟨i, o, h1, h2⟩]
  have S : Sig K ⟨F, hideA vs as H, fx⟩ F oa (L2.start Nm vs) H (as.map AV.ev ++ List.replicate (Nm.length - n) .any) := by
    refine ⟨⟨Ex.refl _, hideA_ex, e, fun a h => .inl h⟩, ?_, fun i d h => ?_, fun i o h => ?_, fun i j o u h1 h2 q => ?_, fun i a h => ?_⟩
    · unfold L2.start; simp [lvs, hl]
    · rcases evg i _ h with z | ⟨a, h1, h2⟩
      · cases z
      · cases a with
        | own o => cases h2
        | val d' =>
          cases h2
          obtain ⟨v, q1, q2⟩ := ar.val i d h1
          exact ⟨v, stg i v q1, q2⟩
    · have h1 := evo i o h
      obtain ⟨a, q1, q2, q3⟩ := ar.own i o h1
      rw [oav i a q1]
      exact ⟨stg i _ q1, q2, hidN i o a h1 q1, q3⟩
    · have h1 := evo i o h1
      have h2 := evo j u h2
      obtain ⟨a, q1, _⟩ := ar.own i o h1
      obtain ⟨a', q1', _⟩ := ar.own j u h2
      rw [oav i a q1, oav j a' q1'] at q
      subst q
      exact ar.dist i j o u a h1 h2 q1 q1'
    · obtain ⟨o, h1, rfl⟩ := fxs i a h
      obtain ⟨a, q1, _, q3⟩ := ar.own i o h1
      obtain ⟨w, hw⟩ := q3.ho
      exact ⟨rfl, by rw [oav i a q1, hw]; simp⟩
  have fin : ∀ env F' oa' σ' H' v, Sig K ⟨F, hideA vs as H, fx⟩ F' oa' σ' H' env → Held as as' env → (RetR K ⟨F, hideA vs as H, fx⟩ F' H' v r ∨ ∃ C, r = .exc C) → outR r E Q v H' := fun env F' oa' σ' H' v S' ho hr => by
    have fxo : ∀ (i : Nat) (o : OB) (a : Addr), as[i]? = some (.own o) → vs[i]? = some (.ref a) → oa' i = a ∧ H' a ≠ none := fun i o a h1 h2 => by
      have q : fx i = some a := by
        show (match as[i]? with | some (.own _) => some (oa i) | _ => none) = some a
        rw [h1, oav i a h2]
      exact S'.fix i a q
    have hkp : ∀ a u, H a = some u → ¬ ownA vs as a → H' a = some u := fun a u h n => S'.g.gh a u (by
      show hideA vs as H a = some u
      unfold hideA
      rw [if_neg n]; exact h)
    refine k v F' H' ⟨S'.g.gf, S'.g.fh, hkp, fun a h => ?_, fun a h => ?_, fun i o h => ?_, ?_⟩
    · rcases S'.g.gn a h with q | q
      · exact .inl q
      · by_cases z : ownA vs as a
        · obtain ⟨i, o, h1, h2⟩ := z
          obtain ⟨o', h3, h4⟩ := ho i o h1
          obtain ⟨_, x2, _⟩ := S'.own i o' h4
          rw [(fxo i o a h1 h2).1] at x2
          exact absurd x2 h
        · refine .inr ?_
          have q' : hideA vs as H a = none := q
          unfold hideA at q'
          rw [if_neg z] at q'
          exact q'
    · by_cases z : ownA vs as a
      · obtain ⟨i, o, h1, h2⟩ := z
        exact (fxo i o a h1 h2).2
      · cases w : H a with
        | none => exact absurd w h
        | some u => rw [hkp a u w z]; simp
    · obtain ⟨o', h3, h4⟩ := ho i o h
      obtain ⟨a, q1, _⟩ := ar.own i o h
      obtain ⟨_, x2, _, x4⟩ := S'.own i o' h4
      rw [(fxo i o a h q1).1] at x2 x4
      exact ⟨o', a, h3, q1, x2, x4⟩
    · cases r with
      | exc C => trivial
      | val d =>
        rcases hr with hr | ⟨_, hr⟩
        · exact hr
        · cases hr
      | new o =>
        rcases hr with hr | ⟨_, hr⟩
        rotate_left
        · cases hr
        obtain ⟨a, rfl, h1, h2, h3, h4⟩ := hr
        refine ⟨a, rfl, h1, ?_, h4⟩
        have h2' : hideA vs as H a = none := h2
        unfold hideA at h2'
        split at h2'
        · rename_i z
          obtain ⟨i, o', h5, h6⟩ := z
          refine absurd ?_ (h3 i)
          show (match as[i]? with | some (.own _) => some (oa i) | _ => none) = some a
          rw [h5, oav i a h6]
        · exact h2'
  refine hx ⟨F, hideA vs as H, fx⟩ F oa (L2.start Nm vs) H _ (fun i h => ?_) S ⟨fun env F' oa σ H h S x => ?_, fun _ _ _ _ _ h => h.elim, fun _ _ _ _ _ h => h.elim, fun q env F' oa σ H v h S x hr => ?_, fun X env F' oa σ H h S x => ?_⟩
  · cases z : fx i with
    | none => exact absurd z h
    | some a =>
      obtain ⟨o, h1, _⟩ := fxs i a z
      exact hpr i o h1
  · obtain ⟨h1, h2⟩ := h
    subst h1
    exact fin env F' oa σ H .non S h2 (.inl .non)
  · obtain ⟨h1, h2⟩ := h
    subst h1
    have := fin env F' oa σ H v S h2 (.inl hr)
    cases q with
    | exc C => exact hr.elim
    | val d => exact this
    | new o => exact this
  · obtain ⟨h1, h2⟩ := h
    subst h1
    exact fin env F' oa σ H .non S h2 (.inr ⟨_, rfl⟩)
/-- raise C('..') -/
def tRaise (W : WX) (C : Addr) : TS := fun _ σ H => W (.ref C) none σ H
section
variable {K : PySem.W.Frag} {pr : List Nat} {W : WX} {env e1 : Env} {N B C : Env → Prop} {R : Ret → Env → Prop} {X : Addr}
end
end DL

namespace DL
open PySem L2

/-! ### calls -/
section
variable {K : PySem.W.Frag} {env e1 : Env} {P : List AV → Ret → List AV → Prop} {rs : List Res} {as as' : List AV} {d : D} {o : OB} {ta : TA} {E : XK}
def slots : List Res → List Nat
  | [] => []
  | .val _ :: r => slots r
  | .slot i :: r => i :: slots r
/-! ### expressions that raise -/
variable {W : WX} {X : Addr} {te tb tl : TE} {t u : TT} {rr : R2} {e2 : Env} {r : Res} {cc : Bool} {pr : List Nat} {N B C : Env → Prop} {R : Ret → Env → Prop} {g : TG}
end
end DL

/-! ### an exception that is caught, and kept by a name behind its clause -/
namespace L2
open PySem PySem.Spec PyProof.Rows DL
section
variable {X : Cx} {pins : List (Addr × Obj)} {σ : L2.St} {H : Hp} {s : Shared}
/-- an exception that lies there untracked is tracked from now on -/
theorem Inv.heldExc (I : Inv X pins σ H s) {C a : Addr} {oe : Obj} {vs : Array Value} (ha : s.heap.get? a = some oe) (hz : Zc (.ref C) none oe) (hd : oe.data = .fields vs) (na : H a = none) (nL : a ≠ X.env.locals)
    (n0 : X.s_0.heap.get? a = none) (np : ∀ p ∈ X.pn ++ pins, p.1 ≠ a) : Inv X pins σ (upd H a (ExK C a)) s := by
  have other : ∀ {b : Addr} {o : HO}, H b = some o → upd H a (ExK C a) b = some o := fun {b o} hb => by
    rw [upd_ne (fun z => by rw [z, na] at hb; cases hb)]; exact hb
  have cellNe : ∀ x c, X.env.cells.lookup x = some c → c ≠ a := fun x c hx z => by
    obtain ⟨v, o, ho, hv⟩ := I.cell x c hx
    rw [z, ha] at ho
    cases ho
    rw [hd] at hv; cases hv
  refine { ok := I.ok, os := I.os, bare := I.bare, base := ?_, loc := I.loc, cell := I.cell, free := ?_, freeC := fun x c hx => ?_, pin := fun p hp => ?_, hok := fun b o hb => ?_, len := I.len }
  · refine { keep := I.base.keep, slot := I.base.slot, free := fun b o hb h0 hx => ?_, there := I.base.there, tups := fun b xs hb => other (I.base.tups b xs hb), frzs := fun b o u hb => other (I.base.frzs b o u hb), tbls := fun b ps hb => ?_ }
    · rw [upd_ne (fun z => by rw [z, n0] at hb; cases hb)]
      exact I.base.free b o hb h0 hx
    · obtain ⟨more, q⟩ := I.base.tbls b ps hb
      exact ⟨more, other q⟩
  · rw [upd_ne (Ne.symm nL)]; exact I.free
  · rw [upd_ne (cellNe x c hx)]; exact I.freeC x c hx
  · obtain ⟨h1, h2, h3⟩ := I.pin p hp
    exact ⟨h1, by rw [upd_ne (np p hp)]; exact h2, h3⟩
  · by_cases z : b = a
    · subst z
      rw [upd_same] at hb
      cases hb
      exact ⟨⟨oe, vs, ha, hz, hd⟩, ⟨oe, ha⟩, fun _ _ ⟨o', vs', q1, q2⟩ k => ⟨o', vs', k o' q1, q2⟩⟩
    · rw [upd_ne z] at hb
      exact (I.hok b o hb).stay (fun _ _ _ q => q) (fun _ q => other q) (fun _ _ q => other q)
/-- what 'except x as n: m = n' wishes: slot j is m's, i is n's -/
def wKeep (K : PySem.W.Frag) (c : Value) (i j : Nat) (D : Ends) : WX := fun cls d σ H =>
  ∃ C, cls = .ref C ∧ d = none ∧ PySem.W.exmOne K cls c = some true ∧ ∀ a, H a = none → D.nx (((σ.set i (some (.ref a))).set j (some (.ref a))).set i none) (upd H a (ExK C a))
end
section
variable {X : Cx} {x n : Str} {c : Value} {i j : Nat} {body suite : List Stmt} {b₀ : Stmt} {np pos pos' : Pos} {tb : WX → TS}
theorem ps_try_keep (hs : X.stack = X.env :: X.outer) (hf : X.env.frame = some X.env.locals) (hex : X.ex = []) (hN : X.N.Nodup) (hi : X.N[i]? = some n) (hln : X.env.kindOf n = some .local) (hc : Names X x c)
    (hb : ∀ (W : WX) (pn : List (Addr × Obj)) (xe : Value → Shared → Prop), Takes (X.tr pn xe) W → PassesOwn (model X.prog X.w) X.A X.env xe → PSs (X.tr pn xe) body (tb W))
    (hsu : ∀ (a : Addr) (oe : Obj) (pn : List (Addr × Obj)), PSs (X.suite a ((a, oe) :: pn)) (b₀ :: suite) (tAsg (tVar i) (gName j))) (hij : i < X.N.length) :
    PS X (.Try body [.ExceptHandler (some (.Name x np)) (some n) (b₀ :: suite) pos'] [] [] pos) (fun D σ H => tb (wKeep X.K c i j D) D σ H) := by
  constructor
  intro pins s σ H D I h
  have okX := I.ok
  have fr : X.A.frames = some (X.env :: X.outer) := okX.frames.trans (congrArg some hs)
  apply wpAny_Try_except
  refine wpAny_mono ((hb (wKeep X.K c i j D) (X.pn ++ pins) _ (fun u s' air => ?_) PassesOwn.looking).run [] s σ H D (I.toTry _) h) (fun f s1 r => ?_) (fun _ _ z => z)
  · obtain ⟨a, B, sI, ps, σ', H', cls, d, eu, J', nb, up, sky, na, os, ag, C, ecls, ed, match1, go⟩ := air
    subst eu ecls ed
    have J : Inv X pins σ' H' sI := J'.ofTry okX
    rw [hs] at sky
    change wpAny (model X.prog X.w) X.A (noteFrame (.ref a) X.env) _ _ _
    refine Sky.land Zc.steady fr hf sky fun h3 air3 up3 => ?_
    have B0 : B.get? a = none := air3.2.1
    obtain ⟨oe3, vs3, at3, z3, d3⟩ := air3.there
    have J3 : Inv X pins σ' H' { s' with heap := h3 } := J.landed nb air3.1 (up.trans up3) os ag
    -- it is no frame
    have noFr : a ∉ frs (X.env :: X.outer) := fun hm => by
      obtain ⟨_, o, eo, no⟩ := air3.2.2.1.mem hm
      rw [at3] at eo
      cases eo
      exact no _ d3
    have nL : a ≠ X.env.locals := fun z => noFr (List.mem_filterMap.mpr ⟨X.env, List.mem_cons_self, by rw [hf, z]⟩)
    have nF : a ∉ X.fs := fun hm => by
      obtain ⟨e, h1, h2⟩ := List.mem_filterMap.mp hm
      exact noFr (List.mem_filterMap.mpr ⟨e, List.mem_cons_of_mem _ h1, h2⟩)
    -- it is new
    have nI : sI.heap.get? a = none := by
      cases q : sI.heap.get? a with
      | none => rfl
      | some o =>
        have := nb a o q (by show a ∉ frs X.stack; rw [hs]; exact noFr)
        rw [B0] at this; cases this
    have n0 : X.s_0.heap.get? a = none := by
      cases q : X.s_0.heap.get? a with
      | none => rfl
      | some o =>
        obtain ⟨o', q'⟩ := J.base.there a o q (by rw [hex]; exact List.not_mem_nil)
        rw [nI] at q'; cases q'
    have npin : ∀ p ∈ X.pn ++ pins, p.1 ≠ a := fun p hp z => by
      have := (J.pin p hp).1
      rw [z, nI] at this; cases this
    refine wpAny_handleBy_cons (codeAny_handlers_test ?_) (by intro q; cases q)
    have cl : PySem.W.Looks (model X.prog X.w) h3 (typeOf (.ref a)) (.ref C) := fun _ _ _ s2 k q => wpAny_typeOf_ref (k _ _ at3) (by rw [z3.1]; exact q)
    have look := PySem.W.exm_one (M := model X.prog X.w) J3.kIn cl match1
    have S3 := J3.suite at3 d3 na nL nF
    have named : ∀ (Q E : Value → Shared → Prop), Q c { s' with heap := h3 } → wpAny (model X.prog X.w) (X.A.mark (some (.ref a))) (eval (.Name x np) X.env) Q E { s' with heap := h3 } := by
      intro Q E q
      rcases hc with ⟨hg, hdb, hm | ⟨hm, hv, hnn⟩⟩
      · exact ld_glob (X := X.suite a ((a, oe3) :: (X.pn ++ pins))) S3 hg hm q hdb
      · exact ld_blt (X := X.suite a ((a, oe3) :: (X.pn ++ pins))) S3 hg hm hv q hnn hdb
    refine named _ _ (look.here ?_)
    apply codeAny_handlers_suite_as
    refine HandSPX.lands_againZ air3 fun h4 air4 up4 => ?_
    obtain ⟨oe, vs, at4, z4, d4⟩ := air4.there
    have J4 : Inv X pins σ' H' { s' with heap := h4 } := J.landed nb air4.1 ((up.trans up3).trans up4) os ag
    have S4 := J4.suite at4 d4 na nL nF
    have loc : Loc X.env.scope n := .inl hln
    refine store_ok (X := X.suite a ((a, oe) :: (X.pn ++ pins))) (v := .ref a) S4 hN hi loc rfl (fun s5 S5 => ?_) (.inr hln)
    have lσ : i < σ'.length := by rw [J.len]; exact hij
    -- what the suite leaves: the two names hold it
    let Dk : Ends := { nx := fun σ6 H6 => σ6 = (σ'.set i (some (.ref a))).set j (some (.ref a)) ∧ H6 = H', rt := fun _ _ => False }
    have suite1 : tAsg (tVar i) (gName j) Dk (σ'.set i (some (.ref a))) H' := ⟨.ref a, List.getElem?_set_self lσ, rfl, rfl⟩
    refine wpAny_mono ((hsu a oe (X.pn ++ pins)).run [] s5 _ H' Dk S5 suite1) (fun f s6 r => ?_) (fun _ _ z => z.elim)
    cases f with
    | next =>
      obtain ⟨σ6, H6, S6, eσ, eH⟩ := r
      subst eσ eH
      obtain ⟨at6, _, _, _, _⟩ := S6.pin (a, oe) (List.mem_append_left _ List.mem_cons_self)
      have J6 := Inv.heldExc (S6.unsuite okX) at6 z4 d4 na nL n0 npin
      exact gone_ok J6 hN hi hln fun s7 J7 => ⟨_, _, J7, go a na⟩
    | brk => obtain ⟨_, _, _, q⟩ := r; exact q.elim
    | cont => obtain ⟨_, _, _, q⟩ := r; exact q.elim
    | ret u => obtain ⟨_, _, _, _, _, q⟩ := r; exact q.elim
  · cases f with
    | next =>
      obtain ⟨σ1, H1, J1, q1⟩ := r
      exact wpAny_execs_nil ⟨σ1, H1, J1.ofTry okX, q1⟩
    | brk =>
      obtain ⟨σ1, H1, J1, q1⟩ := r
      exact ⟨σ1, H1, J1.ofTry okX, q1⟩
    | cont =>
      obtain ⟨σ1, H1, J1, q1⟩ := r
      exact ⟨σ1, H1, J1.ofTry okX, q1⟩
    | ret u =>
      obtain ⟨v, σ1, H1, J1, rv, q1⟩ := r
      exact ⟨v, σ1, H1, J1.ofTry okX, rv, q1⟩
end
end L2

namespace DL
open PySem L2
section
variable {K : PySem.W.Frag} {b : Bs} {F H : Hp} {oa : Nat → Addr} {σ : L2.St} {env : Env} {i j : Nat}
theorem Sig.unset (S : Sig K b F oa σ H env) : Sig K b F oa (σ.set i none) H (env.set i .any) where
  g := S.g
  len := by simp [S.len]
  val := fun n d e => by
    by_cases q : i = n
    · subst q
      rw [List.getElem?_set] at e
      split at e
      · split at e <;> cases e
      · rename_i z; exact absurd rfl z
    · rw [List.getElem?_set_ne q] at e
      rw [List.getElem?_set_ne q]
      exact S.val n d e
  own := fun n d e => by
    by_cases q : i = n
    · subst q
      rw [List.getElem?_set] at e
      split at e
      · split at e <;> cases e
      · rename_i z; exact absurd rfl z
    · rw [List.getElem?_set_ne q] at e
      rw [List.getElem?_set_ne q]
      exact S.own n d e
  dist := fun n m o u e f z => by
    have t : ∀ (n : Nat) (o : OB), (env.set i .any)[n]? = some (EV.own o) → env[n]? = some (EV.own o) := fun n o e => by
      by_cases q : i = n
      · subst q
        rw [List.getElem?_set] at e
        split at e
        · split at e <;> cases e
        · rename_i z; exact absurd rfl z
      · rw [List.getElem?_set_ne q] at e; exact e
    exact S.dist n m o u (t _ _ e) (t _ _ f) z
  fix := S.fix
end
/-- try: body / except c as n: m = n -/
def tTry (K : PySem.W.Frag) (c : Value) (i j : Nat) (tb : WX → TS) : TS := fun D σ H => tb (wKeep K c i j D) D σ H
theorem ps_tryK {X : Cx} {x n : Str} {c : Value} {i j : Nat} {body suite : List Stmt} {b₀ : Stmt} {np pos pos' : Pos} {tb : WX → TS} (hs : X.stack = X.env :: X.outer) (hf : X.env.frame = some X.env.locals) (hex : X.ex = []) (hN : X.N.Nodup) (hi : X.N[i]? = some n)
    (hln : X.env.kindOf n = some .local) (hc : Names X x c)
    (hb : ∀ (W : WX) (pn : List (Addr × Obj)) (xe : Value → Shared → Prop), Takes (X.tr pn xe) W → PassesOwn (model X.prog X.w) X.A X.env xe → PSs (X.tr pn xe) body (tb W))
    (hsu : ∀ (a : Addr) (oe : Obj) (pn : List (Addr × Obj)), PSs (X.suite a ((a, oe) :: pn)) (b₀ :: suite) (tAsg (tVar i) (gName j))) (hij : i < X.N.length) :
    PS X (.Try body [.ExceptHandler (some (.Name x np)) (some n) (b₀ :: suite) pos'] [] [] pos) (tTry X.K c i j tb) := ps_try_keep hs hf hex hN hi hln hc hb hsu hij
section
variable {K : PySem.W.Frag} {pr : List Nat} {W : WX} {env : Env} {i j : Nat} {N B C : Env → Prop} {R : Ret → Env → Prop} {c : Value} {tb : WX → TS}
/-- what is caught goes on with slot j holding it -/
def caught (K : PySem.W.Frag) (c : Value) (i j : Nat) (N : Env → Prop) (R : Ret → Env → Prop) : Ret → Env → Prop := fun q e => match q with
  | .exc X => PySem.W.exmOne K (.ref X) c = some true ∧ N (((e.set i (.val (.exc X))).set j (.val (.exc X))).set i .any)
  | q => R q e
end

/-! ### isinstance, of exceptions too -/
def rIsX (K : PySem.W.Frag) : List V → Hp → VK → Prop := fun xs H Q => ∃ (a C : Addr) (c : V) (u : Value) (b : Bool), xs = [.ref a, c] ∧ H a = some (ExK C a) ∧ ExcC K C ∧ ClsV c u ∧ PySem.W.kitOne K (.ref C) u = some b ∧ Q (.bl b) H
def rIsXT (K : PySem.W.Frag) : List V → Hp → VK → Prop := fun xs H Q => ∃ (a C tp : Addr) (cs : List V) (us : List Value) (b : Bool), xs = [.ref a, .ref tp] ∧ H a = some (ExK C a) ∧ ExcC K C ∧ H tp = some (.tup cs) ∧ Paired ClsV cs us ∧ PySem.W.kitAny K (.ref C) us = some b ∧ Q (.bl b) H
theorem exk_at {X : Cx} {pins : List (Addr × Obj)} {σ : L2.St} {H : Hp} {s : Shared} {a C : Addr} (I : Inv X pins σ H s) (h : H a = some (ExK C a)) : ∃ oe, PySem.W.InstAt s.heap a oe C none := by
  obtain ⟨⟨oe, vs, h1, h2, h3⟩, _⟩ := (show ObjOk X.prog X.w H s.heap a (ExK C a) from I.hok a _ h)
  obtain ⟨oc, od, dt, sl⟩ := oe
  obtain ⟨z1, z2⟩ := h2
  dsimp only at z1 z2 h3
  subst z1 z2 h3
  exact ⟨_, h1, rfl, rfl, trivial⟩
section
variable {X : Cx}
theorem call_isX : CallR X (.builtin "isinstance") (rIsX X.K) := by
  intro pins s σ H xs us Q I r h
  obtain ⟨a, C, c, u, b, rfl, ha, x, k, e, q⟩ := h
  obtain ⟨u1, u2, rfl, r1, r2⟩ := vals2 r
  have e2 := k.eq r2
  subst e2
  cases (show u1 = Value.ref a from r1)
  obtain ⟨oe, J⟩ := exk_at I ha
  exact PySem.W.kia_one (PySem.W.handS_kitx_exc x.hg x.hk x.hs x.hd x.ha x.hn x.ht x.hm) I.kIn J e (fun z => nomatch z) fun tk => ⟨.bl b, H, I.tok tk, rfl, q⟩
theorem call_isXT : CallR X (.builtin "isinstance") (rIsXT X.K) := by
  intro pins s σ H xs us Q I r h
  obtain ⟨a, C, tp, cs, ws, b, rfl, ha, x, hT, k, e, q⟩ := h
  obtain ⟨u1, u2, rfl, r1, r2⟩ := vals2 r
  cases (show u1 = Value.ref a from r1)
  cases (show u2 = Value.ref tp from r2)
  obtain ⟨oe, J⟩ := exk_at I ha
  obtain ⟨_, its, rv, o, h1, h2, n, h3⟩ := (show ObjOk X.prog X.w H s.heap tp (.tup cs) from I.hok tp _ hT)
  have e3 := ClsV.all k rv
  subst e3
  obtain ⟨oc, od, dt, sl⟩ := o
  dsimp only at h2 h3
  subst h2 h3
  exact PySem.W.kia_tup (PySem.W.handS_kitx_exc x.hg x.hk x.hs x.hd x.ha x.hn x.ht x.hm) I.kIn J h1 e (fun z => nomatch z) fun tk => ⟨.bl b, H, I.tok tk, rfl, q⟩
end
def rIsiU (K : PySem.W.Frag) : List V → Hp → VK → Prop := fun xs H Q => rIsi K xs H Q ∨ (rIsiT K xs H Q ∨ (rIsX K xs H Q ∨ rIsXT K xs H Q))
theorem call_isiA {X : Cx} {K : PySem.W.Frag} (e : X.K = K := by rfl) : CallR X (.builtin "isinstance") (rIsiU K) := by subst e; exact CallR.or call_isi (CallR.or call_isiT (CallR.or call_isX call_isXT))
/-- raise C('..') -/
theorem ps_raiseC {X : Cx} {W : WX} {C : Addr} {e : Expr} {pos : Pos} (hc : X.calm = true) (tk : Takes X W) (he : PMk X e (fun _ H Q => Q (.ref C) none H)) : PS X (.Raise (some e) none pos) (tRaise W C) := ps_raise hc tk he
end DL

namespace DL
open PySem L2

/-! ### operators and built-ins by what their operands came to -/
section
variable {K : PySem.W.Frag} {te ta tb tc : TE} {t u : TT} {env e e1 e2 e3 : Env} {r r1 r2 r3 : Res} {d d1 d2 : D} {o : OB} {i j k' : Int} {x y : Str} {c c1 c2 : Bool} {l m : List D} {rr : R2}
end

/-! ### defs -/
/-- a def that may be called by its name -/
structure Df (P : Program) (w : World) (K : PySem.W.Frag) (mg : Str → Option Value) (base : Heap) (k : Nat) (x : Str) (sp : Sp) : Prop where
  ex : ∃ (f : Addr) (fd : FuncData) (ps : List Str), FnOk P w K mg base CX0 k f fd ps sp ∧ mg x = some (.ref f) ∧ PySem.W.keepIn K (.ref f) = true ∧ Binds K fd ps []
section
variable {X : Cx} {k j : Nat} {x : Str} {sp : Sp} {p pos : Pos} {e : Expr} {es : List Expr} {t : TA}
end
/-- .. that may raise -/
structure Dx (P : Program) (w : World) (K : PySem.W.Frag) (mg : Str → Option Value) (base : Heap) (k : Nat) (x : Str) (sp : Sp) : Prop where
  ex : ∃ (f : Addr) (fd : FuncData) (ps : List Str), FnOk P w K mg base (L2.CX P w) k f fd ps sp ∧ mg x = some (.ref f) ∧ PySem.W.keepIn K (.ref f) = true ∧ Binds K fd ps []
section
variable {X : Cx} {W : WX} {k j : Nat} {x : Str} {sp : Sp} {p pos : Pos} {e : Expr} {es : List Expr} {t : TA}
theorem pe_dx (c : Dx X.prog X.w X.K X.mg X.base k x sp) (tk : Takes X W) (hr : Room j X.A) (hk : k ≤ j) (hg : Gl X x) (ha : PA X (e :: es) t)
    (hdb : (x == ("__debug__" : Str)) = false := by decide) (he : starEach (e :: es) X.env = (false, eval e X.env) :: starEach es X.env := by rfl) (hpl : (backTo pos (starEach es X.env)).any (·.1) = false := by rfl) :
    PE X (.Call (.Name x p) (e :: es) [] pos) (tCallS sp (WE W) t) := by
  obtain ⟨f, fd, ps, F, hm, kp, b⟩ := c.ex
  exact pe_callS F (hr.mono hk) hg hm kp b (fun σ => passAt tk σ) ha hdb he hpl
/-- .. and does not, where it is called -/
theorem pe_dx0 (c : Dx X.prog X.w X.K X.mg X.base k x sp) (hr : Room j X.A) (hk : k ≤ j) (hg : Gl X x) (ha : PA X (e :: es) t)
    (hdb : (x == ("__debug__" : Str)) = false := by decide) (he : starEach (e :: es) X.env = (false, eval e X.env) :: starEach es X.env := by rfl) (hpl : (backTo pos (starEach es X.env)).any (·.1) = false := by rfl) :
    PE X (.Call (.Name x p) (e :: es) [] pos) (tCall sp [] E0 t) := by
  obtain ⟨f, fd, ps, F, hm, kp, b⟩ := c.ex
  exact pe_call F (hr.mono hk) hg hm kp b .nil passL ha hdb he hpl
end
theorem vals_noOwn {ds : List D} {i : Nat} {o : OB} : (ds.map AV.val)[i]? ≠ some (AV.own o) := by
  rw [List.getElem?_map]
  cases ds[i]? <;> simp
section
variable {K : PySem.W.Frag} {env e1 : Env} {f : List D → D → Prop} {g : List D → OB → Prop} {rs : List Res} {ds : List D} {d : D} {o : OB} {ta : TA} {E : XK}
end
section
variable {K : PySem.W.Frag} {env e1 : Env} {f : List D → Ret → Prop} {rs : List Res} {ds : List D} {d : D} {o : OB} {ta : TA} {W : WX} {C : Addr} {E : XK}
end
section
variable {P : Program} {w : World} {K : PySem.W.Frag} {mg : Str → Option Value} {base : Heap} {x qn : Str} {st : Stmt} {fa : Addr} {fd : FuncData} {N ps : List Str} {k : Nat}
theorem spG_len {Pr : List AV → Ret → List AV → Prop} {n : Nat} (hn : ∀ as r as', Pr as r as' → as.length = n) {vs : List V} {H : Hp} {Q : VK} {E : XK} (h : SpG K Pr vs H Q E) : vs.length = n := by
  obtain ⟨F, as, r, as', _, ar, p, _⟩ := h
  rw [ar.len, hn as r as' p]
theorem Fn.ofG {Pr : List AV → Ret → List AV → Prop} (F : Fun K x qn st fa fd) (S : FnScope N ps (defScope st)) (hn : ∀ as r as', Pr as r as' → as.length = ps.length)
    (body : ∀ (cdv : Value) (A : Around) (outer : List PySem.Env) (s : Shared) (H : Hp) (E : XK), Room k (A.deeper (PyProof.Rows.envOfC qn (defScope st) s.heap.objs.size fa cdv)) →
      ∃ t, PSs (cxOf CX0 P w K mg base N qn (defScope st) fa cdv A outer s H E).nox (defBody st) t ∧ ∀ as r as', Pr as r as' → ∃ pr : List Nat, (∀ (i : Nat) (o : OB), as[i]? = some (AV.own o) → i ∈ pr) ∧ Exec K pr (fun cls d _ H => E cls d H) t (as.map AV.ev ++ List.replicate (N.length - ps.length) .any)
      (fun e => r = .val .non ∧ Held as as' e) (fun _ => False) (fun _ => False) (fun q e => q = r ∧ Held as as' e)) : FnOk P w K mg base CX0 (k + 1) fa fd ps (SpG K Pr) :=
  F.ok S (fun vs H Q E h => spG_len hn h) (fun cdv A outer s H vs Q E hr h => by
    obtain ⟨t, h1, h2⟩ := body cdv A outer s H E hr
    have hpl : ps.length ≤ N.length := by have := congrArg List.length S.pre; rw [List.length_take] at this; omega
    exact ⟨t, h1, run_SpG h (fun as r as' p => ⟨hn as r as' p, hpl⟩) h2⟩)
theorem Dx.of {sp : Sp} (h : FnOk P w K mg base (L2.CX P w) k fa fd ps sp) (F : Fun K x qn st fa fd) (hm : mg x = some (.ref fa)) (b : Binds K fd ps []) : Dx P w K mg base k x sp := ⟨fa, fd, ps, h, hm, F.kp, b⟩
theorem Df.of {sp : Sp} (h : FnOk P w K mg base CX0 k fa fd ps sp) (F : Fun K x qn st fa fd) (hm : mg x = some (.ref fa)) (b : Binds K fd ps []) : Df P w K mg base k x sp := ⟨fa, fd, ps, h, hm, F.kp, b⟩
end
end DL

namespace DL
open PySem L2
/-! ### == of data, by a plain function -/
mutual
def pl : Nat → D → Bool
  | _, .non => true
  | _, .bl _ => true
  | _, .int _ => true
  | _, .str x => PyData.canLay0 (.str x)
  | n + 1, .tup l => plL n l
  | n + 1, .lst l => plL n l
  | _, _ => false
def plL : Nat → List D → Bool
  | _, [] => true
  | n, d :: r => pl n d && plL n r
end
/-! ### items -/
/-! ### comprehensions over one name, the slots left as they are -/
section
variable {K : PySem.W.Frag} {te : TE} {t : TT} {env e1 : Env} {wi : TI} {j : Nat}
end
/-! ### isinstance of data -/
end DL

namespace DL
open PySem L2
section
variable {K : PySem.W.Frag} {pr : List Nat} {W : WX} {s : TS} {env e1 : Env} {i j : Nat} {N B C : Env → Prop} {R : Ret → Env → Prop} {wi : TI} {ds : List D}
theorem small_of {n : Int} (c : Int) (h0 : 0 ≤ n) (h1 : n ≤ 70) (hc : c = 1 ∨ c = 2 ∨ c = 3 ∨ c = 8) : Builtin.Range.small 0 n c = true := by
  have k1 : ∀ m : Nat, m < 71 → Builtin.Range.small 0 (m : Int) 1 = true := by decide
  have k2 : ∀ m : Nat, m < 71 → Builtin.Range.small 0 (m : Int) 2 = true := by decide
  have k3 : ∀ m : Nat, m < 71 → Builtin.Range.small 0 (m : Int) 3 = true := by decide
  have k8 : ∀ m : Nat, m < 71 → Builtin.Range.small 0 (m : Int) 8 = true := by decide
  have e : n = ((n.toNat : Nat) : Int) := by omega
  rw [e]
  rcases hc with h | h | h | h <;> subst h
  · exact k1 _ (by omega)
  · exact k2 _ (by omega)
  · exact k3 _ (by omega)
  · exact k8 _ (by omega)
theorem rg_of {n c : Int} (h : Builtin.Range.small 0 n c = true) (hc : 0 < c ∧ c < 1000) : RgC 0 n c (if 0 < n then (n - 1) / c + 1 else 0).toNat := by
  refine ⟨by omega, by omega, h, ?_⟩
  unfold Builtin.Range.rangeSize
  rw [if_pos (show c > 0 from hc.1)]
  by_cases q : 0 < n
  · rw [if_pos q, if_pos q]
    have : 0 ≤ (n - 1) / c := Int.ediv_nonneg (by omega) (by omega)
    rw [show n - 0 - 1 = n - 1 by omega]
    omega
  · rw [if_neg q, if_neg q]; rfl
/-- range(0, n, 3) for n to 70 -/
theorem rg3 {n : Int} (h0 : 0 ≤ n) (h1 : n ≤ 70) : RgC 0 n 3 (if 0 < n then (n - 1) / 3 + 1 else 0).toNat := rg_of (small_of 3 h0 h1 (by omega)) (by omega)
theorem log2_lt {n : Int} {k : Nat} (h0 : 0 < n) (h : n < 2 ^ k) (hk : k < 9000) : 0 < n ∧ n.natAbs.log2 < 9000 := by
  refine ⟨h0, ?_⟩
  have e : ((2 ^ k : Nat) : Int) = 2 ^ k := by simp
  have a : n.natAbs < 2 ^ k := by omega
  have := (Nat.log2_lt (n := n.natAbs) (k := k) (by omega)).mpr a
  omega
end
end DL

/-! ### methods of data by what their operands came to -/
namespace L2
open PySem PySem.Spec PyProof.Rows
end L2
namespace DL
open PySem L2
section
variable {K : PySem.W.Frag} {te tb : TE} {ta : TA} {env e e1 e2 : Env} {r r' : Res} {rs : List Res} {d : D} {l : List D} {i j : Nat} {n : Int} {x y : Str}
end
end DL

namespace DL
open PySem L2
/-! ### more statements and operators -/
def ipAddU : TIp := fun x y H Q => ipI (fun i j => i + j) x y H Q ∨ rExt2 x y H Q
theorem ip_addU {X : Cx} : PIp X .Add ipAddU := fun pins s σ H x y v u Q I rx ry h => by
  rcases h with h | h
  · exact ip_add pins s σ H x y v u Q I rx ry h
  · exact iop_ext pins s σ H x y v u Q I rx ry h
section
variable {K : PySem.W.Frag} {pr : List Nat} {W : WX} {te ta tb : TE} {env e1 e2 e : Env} {r r1 r2 : Res} {i j : Nat} {l m : List D} {N B C : Env → Prop} {R : Ret → Env → Prop} {n k : Int} {d d1 d2 : D} {c : Bool}
end
end DL
namespace DL
open PySem L2
end DL

/-! ### a tuple times any small number -/
namespace L2
open PySem PySem.Spec PyProof.Rows
theorem mulT_same (l : Addr) (items : Array Value) (n : Nat) (dd : Option Addr) (sl : Array (Option Value)) (x : Int) (u : Tok) (c0 : (decide (x < -(2 ^ 63)) || decide (x ≥ 2 ^ 63)) = false) (c1 : (items.isEmpty || x == 1) = true) :
    Meets (Builtin.«tuple.__mul__» ⟨[.ref l, .int x u], []⟩) (fun _ R s => s.heap.get? l = some { cls := .type "tuple", dict := dd, data := .seq items n, slots := sl } ∧ R (.ok (.ret (.ref l))) s) := .of_wp fun prog w A R s h => by
  obtain ⟨hp, g, d, tk, os⟩ := s
  obtain ⟨hl, h⟩ := h
  have g1 := AutoSeq1.idx_int
  wp_walk using wpAny_loadPart' hl
  repeat (first
    | (refine wpAny_ite_false (decide_eq_false (by rw [c0]; decide)) ?_; wp_walk using wpAny_loadPart' hl)
    | (refine wpAny_ite_true (decide_eq_true c1) ?_; wp_walk using wpAny_loadPart' hl))
  exact ⟨_, rfl, h⟩
theorem mulT_none (l : Addr) (items : Array Value) (n : Nat) (dd : Option Addr) (sl : Array (Option Value)) (x : Int) (u : Tok) (c0 : (decide (x < -(2 ^ 63)) || decide (x ≥ 2 ^ 63)) = false) (c1 : (items.isEmpty || x == 1) = false) (c2 : (decide (x ≤ 0) || items.isEmpty) = true) :
    Meets (Builtin.«tuple.__mul__» ⟨[.ref l, .int x u], []⟩) (fun _ R s => s.heap.get? l = some { cls := .type "tuple", dict := dd, data := .seq items n, slots := sl } ∧
      R (.ok (.ret (.ref s.heap.objs.size))) { s with heap := s.heap.push { cls := .type "tuple", data := .seq #[] }, toks := s.toks }) := .of_wp fun prog w A R s h => by
  obtain ⟨hp, g, d, tk, os⟩ := s
  obtain ⟨hl, h⟩ := h
  have g1 := AutoSeq1.idx_int
  wp_walk using wpAny_loadPart' hl
  repeat (first
    | (refine wpAny_ite_false (decide_eq_false (by rw [c0]; decide)) ?_; wp_walk using wpAny_loadPart' hl)
    | (refine wpAny_ite_false (decide_eq_false (by rw [c1]; decide)) ?_; wp_walk using wpAny_loadPart' hl)
    | (refine wpAny_ite_true (decide_eq_true c2) ?_; wp_walk using wpAny_loadPart' hl))
  exact ⟨_, rfl, h⟩
/-- a tuple times k, a new one: up to 4000000 items -/
theorem rep_new {X : Cx} {pins : List (Addr × Obj)} {s : Shared} {σ : L2.St} {H : Hp} {l : Addr} {k : Int} {t : Tok} {xs : List V} {Q : VK} (I : Inv X pins σ H s) (hT : SqT X.K H l xs) (hne : xs ≠ []) (h1 : 2 ≤ k) (h2 : k ≤ 4000) (hz : xs.length ≤ 1000)
    (q : ∀ p, H p = none → Q (.ref p) (upd H p (.tup (List.replicate k.toNat xs).flatten))) : wpAny (model X.prog X.w) X.A (binaryOp .Mult (.ref l) (.int k t)) (EP X pins σ Q) X.xe s := by
  obtain ⟨its, r, ⟨⟨_, dd, _, sl⟩, ho, rfl, n, rfl⟩, hs⟩ := I.tuple hT
  have le : its.length = xs.length := r.length.symm
  have size : its.toArray.size = xs.length := le
  have full : its.toArray.isEmpty = false := by
    cases its with
    | nil => exact absurd (List.eq_nil_of_length_eq_zero le.symm) hne
    | cons _ _ => rfl
  have most : k.toNat * xs.length ≤ 4000 * 1000 := Nat.mul_le_mul (by omega) hz
  have mosti : ((its.toArray.size : Nat) : Int) * k ≤ 4000000 := by
    have e : ((its.toArray.size : Nat) : Int) * k = ((k.toNat * xs.length : Nat) : Int) := by
      rw [size, Int.natCast_mul, Int.toNat_of_nonneg (by omega), Int.mul_comm]
    rw [e]; omega
  have c0 : (decide (k < -(2 ^ 63)) || decide (k ≥ 2 ^ 63)) = false := by simp; omega
  have c1 : (its.toArray.isEmpty || k == 1) = false := by rw [full]; simp; omega
  have c2 : (decide (k ≤ 0) || its.toArray.isEmpty) = false := by rw [full]; simp; omega
  have c4 : Builtin.Tuple.tupleTooMany (((its.toArray.size : Nat) : Int) * k) = false := by
    unfold Builtin.Tuple.tupleTooMany
    rw [sizeLine_eq]
    exact decide_eq_false (by omega)
  have fit : ∀ {α : Type} (ys : List α), ys.length = xs.length → (List.replicate k.toNat ys).flatten.length ≤ sizeLine := fun ys e => by
    rw [PyProof.Rows.lm_len_rep_flat, e, sizeLine_eq]; omega
  have mul := tuple_mulW l its.toArray n dd sl k t c0 c1 c2 (by omega) c4 (by rw [size_rep, List.size_toArray]; exact fit its le)
  rw [size_rep] at mul
  refine wpAny_binaryOp_repeat_ref (T := "tuple") (U := "int") (by decide) ⟨_, ho, rfl⟩ (fun s' => typeIs_int s' k t) noFill_tuple_mul F.fills_int_mul F.slot_int_rmul repeat_tuple F.slot_int_index.lookup
    (call_meets F.slot_int_rmul (typeIs_int s k t) F.entry_int_rmul (F.args_int_rmul_2 _ _) (int_rmul_tuple k t l its.toArray n dd sl)
      ⟨ho, rfl, ⟨_, ho, rfl⟩, call_meets F.slot_tuple_mul ⟨_, ho, rfl⟩ F.entry_tuple_mul (F.args_tuple_mul_2 _ _) mul ⟨ho, ?_⟩⟩)
  exact ⟨.ref s.heap.objs.size, _, I.laid (t' := s.toks) (o := .tup (List.replicate k.toNat xs).flatten) (fun b ob q => Heap.get?_push_of_some _ q) (Nat.le_refl _) ⟨fit xs rfl, _, r.rep k.toNat, IsTup.new _ _⟩, rfl, q _ (I.hok.fresh (Nat.le_refl _))⟩
/-- a tuple times any k to 100000: itself, or a new one -/
def rMulT (K : PySem.W.Frag) : R2 := fun x y H Q => ∃ l k xs, x = .ref l ∧ y = .int k ∧ SqT K H l xs ∧ k ≤ 4000 ∧ -1000 ≤ k ∧ xs.length ≤ 1000 ∧ (xs = [] → Q (.ref l) H) ∧ (k = 1 → Q (.ref l) H) ∧ (xs ≠ [] → k ≠ 1 → ∀ p, H p = none → Q (.ref p) (upd H p (.tup (List.replicate k.toNat xs).flatten)))
theorem op_mulT {X : Cx} : OpR X (binaryOp .Mult) (rMulT X.K) := by
  intro pins s σ H x y v u Q I rx ry h
  obtain ⟨l, k, xs, rfl, rfl, hT, h2, h1, hz, q0, q1, q2⟩ := h
  by_cases big : xs ≠ [] ∧ 2 ≤ k
  · cases rx
    obtain ⟨t, rfl⟩ := ry
    exact rep_new I hT big.1 big.2 h2 hz (q2 big.1 (by omega))
  · cases rx
    obtain ⟨t, rfl⟩ := ry
    obtain ⟨its, r, ⟨⟨cls, dd, data, sl⟩, ho, hc, n, hd⟩, hs⟩ := I.tuple hT
    simp only at hc hd
    subst hc hd
    have hle : its.length = xs.length := r.length.symm
    have c0 : (decide (k < -(2 ^ 63)) || decide (k ≥ 2 ^ 63)) = false := by
      rw [decide_eq_false (by omega), decide_eq_false (by omega)]; rfl
    by_cases one : xs = [] ∨ k = 1
    · have c1 : (its.toArray.isEmpty || k == 1) = true := by
        rcases one with e | e
        · have : its = [] := List.eq_nil_of_length_eq_zero (by rw [hle, e]; rfl)
          rw [this]; rfl
        · rw [e]; simp
      refine wpAny_binaryOp_repeat_ref (T := "tuple") (U := "int") (by decide) ⟨_, ho, rfl⟩ (fun s' => typeIs_int s' k t) noFill_tuple_mul F.fills_int_mul F.slot_int_rmul repeat_tuple F.slot_int_index.lookup
        (call_meets F.slot_int_rmul (typeIs_int s k t) F.entry_int_rmul (F.args_int_rmul_2 _ _) (int_rmul_tuple k t l its.toArray n dd sl)
          ⟨ho, rfl, ⟨_, ho, rfl⟩, call_meets F.slot_tuple_mul ⟨_, ho, rfl⟩ F.entry_tuple_mul (F.args_tuple_mul_2 _ _) (mulT_same l its.toArray n dd sl k t c0 c1) ⟨ho, ?_⟩⟩)
      refine ⟨.ref l, H, I, rfl, ?_⟩
      rcases one with e | e
      · exact q0 e
      · exact q1 e
    · have n1 : xs ≠ [] := fun e => one (.inl e)
      have n2 : k ≠ 1 := fun e => one (.inr e)
      have k0 : k ≤ 0 := by
        by_cases z : 2 ≤ k
        · exact absurd ⟨n1, z⟩ big
        · omega
      have hi : its.toArray.isEmpty = false := by
        cases its with
        | nil => exact absurd (List.eq_nil_of_length_eq_zero hle.symm) n1
        | cons a b => rfl
      have c1 : (its.toArray.isEmpty || k == 1) = false := by
        rw [hi, Bool.false_or]
        exact beq_eq_false_iff_ne.mpr n2
      have c2 : (decide (k ≤ 0) || its.toArray.isEmpty) = true := by rw [decide_eq_true k0]; rfl
      have e0 : k.toNat = 0 := by omega
      have q := q2 n1 n2
      rw [e0] at q
      refine wpAny_binaryOp_repeat_ref (T := "tuple") (U := "int") (by decide) ⟨_, ho, rfl⟩ (fun s' => typeIs_int s' k t) noFill_tuple_mul F.fills_int_mul F.slot_int_rmul repeat_tuple F.slot_int_index.lookup
        (call_meets F.slot_int_rmul (typeIs_int s k t) F.entry_int_rmul (F.args_int_rmul_2 _ _) (int_rmul_tuple k t l its.toArray n dd sl)
          ⟨ho, rfl, ⟨_, ho, rfl⟩, call_meets F.slot_tuple_mul ⟨_, ho, rfl⟩ F.entry_tuple_mul (F.args_tuple_mul_2 _ _) (mulT_none l its.toArray n dd sl k t c0 c1 c2) ⟨ho, ?_⟩⟩)
      refine ⟨.ref s.heap.objs.size, _, I.laid (t' := s.toks) (o := .tup []) (fun b ob q => Heap.get?_push_of_some _ q) (Nat.le_refl _) ?_, rfl, q _ (I.hok.fresh (Nat.le_refl _))⟩
      exact ⟨by decide, [], .nil, IsTup.new _ _⟩
end L2
namespace DL
open PySem L2
def rMulA (K : PySem.W.Frag) : R2 := fun x y H Q => rMulU x y H Q ∨ rMulT K x y H Q
theorem op_mulA {X : Cx} {K : PySem.W.Frag} (e : X.K = K := by rfl) : OpR X (binaryOp .Mult) (rMulA K) := by subst e; exact OpR.or op_mulU op_mulT
section
variable {K : PySem.W.Frag} {te ta tb : TE} {env e e1 e2 : Env} {r r1 r2 r' : Res} {i j : Int} {d d1 d2 : D} {l m : List D} {o o' : OB} {n : Nat}
/-- enumerate(xs) -/
def enumD (l : List D) : List D := (List.range l.length).map fun i => .tup [.int (i : Nat), l.getD i .non]
theorem enumD_len : (enumD l).length = l.length := by simp [enumD]
theorem enumD_get {i : Nat} (h : (enumD l)[i]? = some d) : ∃ x, l[i]? = some x ∧ d = .tup [.int (i : Nat), x] := by
  unfold enumD at h
  rw [List.getElem?_map] at h
  obtain ⟨k, hk, rfl⟩ := Option.map_eq_some_iff.mp h
  obtain ⟨h1, h2⟩ := List.getElem?_eq_some_iff.mp hk
  rw [List.length_range] at h1
  rw [List.getElem_range] at h2
  subst h2
  exact ⟨l[i], by simp [h1], by rw [List.getD_eq_getElem?_getD, List.getElem?_eq_getElem h1]; rfl⟩
def zipD (l m : List D) : List D := (l.zip m).map fun p => .tup [p.1, p.2]
end
/-! ### defs whose first argument is an object that they change -/
def PO (f : OB → List D → Ret → OB → Prop) : List AV → Ret → List AV → Prop := fun as r as' => ∃ o ds o', as = .own o :: ds.map AV.val ∧ as' = .own o' :: ds.map AV.val ∧ f o ds r o'
section
variable {K : PySem.W.Frag} {ta : TA} {env e1 : Env} {rs : List Res} {ds : List D} {d : D} {o o' ob : OB} {i : Nat} {f : OB → List D → Ret → OB → Prop} {E : XK}
end
section
variable {P : Program} {w : World} {K : PySem.W.Frag} {mg : Str → Option Value} {base : Heap} {x qn : Str} {st : Stmt} {fa : Addr} {fd : FuncData} {N ps : List Str} {k : Nat}
theorem Fn.ofO {f : OB → List D → Ret → OB → Prop} (F : Fun K x qn st fa fd) (S : FnScope N ps (defScope st)) (hn : ∀ o ds r o', f o ds r o' → ds.length + 1 = ps.length)
    (body : ∀ (cdv : Value) (A : Around) (outer : List PySem.Env) (s : Shared) (H : Hp) (E : XK), Room k (A.deeper (PyProof.Rows.envOfC qn (defScope st) s.heap.objs.size fa cdv)) →
      ∃ t, PSs (cxOf CX0 P w K mg base N qn (defScope st) fa cdv A outer s H E).nox (defBody st) t ∧ ∀ o ds r o', f o ds r o' → Exec K [0] (fun cls d _ H => E cls d H) t (EV.own o :: ds.map EV.val ++ List.replicate (N.length - ps.length) .any)
      (fun e => r = .val .non ∧ e[0]? = some (.own o')) (fun _ => False) (fun _ => False) (fun q e => q = r ∧ e[0]? = some (.own o'))) : FnOk P w K mg base CX0 (k + 1) fa fd ps (SpG K (PO f)) :=
  Fn.ofG F S (fun as r as' ⟨o, ds, o', h1, _, h4⟩ => by rw [h1, List.length_cons, List.length_map]; exact hn o ds r o' h4) fun cdv A outer s H E hr => by
    obtain ⟨t, h1, h2⟩ := body cdv A outer s H E hr
    refine ⟨t, h1, fun as r as' ⟨o, ds, o', e1, e2, hf⟩ => ⟨[0], fun i ob h => ?_, ?_⟩⟩
    · subst e1
      cases i with
      | zero => exact List.mem_cons_self
      | succ i => rw [List.getElem?_cons_succ] at h; exact absurd h vals_noOwn
    subst e1 e2
    have held : ∀ e : Env, e[0]? = some (.own o') → Held (.own o :: ds.map AV.val) (.own o' :: ds.map AV.val) e := fun e he i ob h => by
      cases i with
      | zero => exact ⟨o', rfl, he⟩
      | succ i => rw [List.getElem?_cons_succ] at h; exact absurd h vals_noOwn
    have em : (AV.own o :: ds.map AV.val).map AV.ev = EV.own o :: ds.map EV.val := by rw [List.map_cons, List.map_map]; rfl
    rw [em]
    exact x_mono (h2 o ds r o' hf) (fun e h => ⟨h.1, held e h.2⟩) (fun _ h => h) (fun _ h => h) fun q e h => ⟨h.1, held e h.2⟩
end
end DL

namespace DL
open PySem L2
/-! ### a comprehension whose part changes the object in the first slot -/
section
variable {K : PySem.W.Frag} {te : TE} {wi : TI} {env R : Env} {k : Nat} {ds : List D}
end
end DL

/-! ### xs.insert, a list times n, isinstance of several classes -/
namespace L2
open PySem
end L2
namespace DL
open PySem L2
section
variable {K : PySem.W.Frag} {pr : List Nat} {W : WX} {te ta tb : TE} {ts : TA} {env e1 e2 e : Env} {r : Res} {i : Nat} {l m : List D} {N B C : Env → Prop} {R : Ret → Env → Prop} {n j : Int} {d : D} {c : Bool}
end
end DL
namespace DL
open PySem L2
theorem ixN_nat {n i : Nat} (h : i < n) : ixN n (i : Int) = some i := by
  unfold ixN
  rw [if_pos (by omega), if_pos (by omega)]; rfl
end DL
namespace DL
open PySem L2
end DL

/-! ### len(set(xs)), xs.pop(i), xs.remove(x), xs[::-1], objects lent to a call -/
namespace L2
open PySem PySem.Spec PyProof.Rows
/-- how many unlike ones -/
def unlike (ns : List Int) : Nat := (PyProof.Rows.firstMet (fun i => ns.getD i 0) ns.length).length
end L2
namespace DL
open PySem L2
section
variable {K : PySem.W.Frag} {pr : List Nat} {W : WX} {te ta tb : TE} {ts : TA} {env e1 e2 e : Env} {r : Res} {i : Nat} {l m : List D} {N B C : Env → Prop} {R : Ret → Env → Prop} {n j : Int} {d : D} {c : Bool} {ns : List Int} {o : OB} {ds : List D} {rs : List Res}
theorem RepL.eraseIdx {F : Hp} : ∀ {vs : List V} {ds : List D} (n : Nat), RepL K F vs ds → RepL K F (vs.eraseIdx n) (ds.eraseIdx n)
  | _, _, _, .nil => .nil
  | _, _, 0, .cons _ r => r
  | _, _, n + 1, .cons q r => .cons q (RepL.eraseIdx n r)
/-- what each argument reads -/
inductive Rds (env : Env) : List Res → List D → Prop
  | nil : Rds env [] []
  | cons {r : Res} {d : D} {rs : List Res} {ds : List D} : Rd env r d → Rds env rs ds → Rds env (r :: rs) (d :: ds)
theorem Rds.rep {b : Bs} {F : Hp} {oa : Nat → Addr} {σ : L2.St} {H : Hp} (S : Sig K b F oa σ H env) : ∀ {vs : List V} {rs : List Res} {ds : List D}, RRs K F oa vs rs → Rds env rs ds → vs.length = ds.length ∧ ∀ (i : Nat) (d : D), ds[i]? = some d → ∃ v, vs[i]? = some v ∧ Rep K H v d
  | [], _, _, h, .nil => ⟨rfl, fun i d hi => by simp at hi⟩
  | _ :: _, _, _, h, .nil => h.elim
  | [], _, _, h, .cons _ _ => h.elim
  | v :: vs, _, _, h, .cons q t => by
    obtain ⟨h1, h2⟩ := Rds.rep S h.2 t
    refine ⟨by rw [List.length_cons, List.length_cons, h1], fun i d hi => ?_⟩
    cases i with
    | zero => simp at hi; subst hi; exact ⟨v, rfl, q.rep S h.1⟩
    | succ i => simp at hi; exact h2 i d hi
end
end DL

/-! ### xs[k] += n; in, of data of any depth; more that raises -/
namespace L2
open PySem PySem.Spec PyProof.Rows
def rGetN (K : PySem.W.Frag) : V → V → Hp → VK → Prop := fun o i H Q => ∃ (p : Addr) (xs : List V) (n : Nat) (v : V), o = .ref p ∧ i = .int (n : Nat) ∧ SqL K H p xs ∧ xs[n]? = some v ∧ Q v H
theorem get_listN {X : Cx} : PGet X (rGetN X.K) := by
  intro pins s σ H o i ov iv Q I r1 r2 h
  obtain ⟨p, xs, n, v, rfl, rfl, hq, he, q⟩ := h
  cases r1
  obtain ⟨t, rfl⟩ := r2
  obtain ⟨its, r, pl, hz⟩ := I.list hq
  obtain ⟨w, ew, rw'⟩ := r.get he
  have hl := r.length
  have hn := line63
  have hlt : n < xs.length := (List.getElem?_eq_some_iff.mp he).1
  exact wpAny_getItem_list pl.isList (by omega) (by omega) (by simpa using ew) ⟨v, H, I, rw', q⟩
theorem get_listK {X : Cx} {K : PySem.W.Frag} (e : X.K = K := by rfl) : PGet X (rGetN K) := by subst e; exact get_listN
end L2
namespace DL
open PySem L2
section
variable {X : Cx} {k j : Nat} {x : Str} {sp : Sp} {p pos : Pos}
end
theorem room65 {k : Nat} {A : Around} (r : Room k A) : A.units + 65 < cLine := by have := r.un; omega
section
variable {K : PySem.W.Frag} {pr : List Nat} {W : WX} {te ta tb to : TE} {ts : TA} {env e1 e2 e : Env} {r r1 r2 : Res} {i : Nat} {l m : List D} {N B C : Env → Prop} {R : Ret → Env → Prop} {n j k0 : Int} {d : D} {c : Bool} {X : Addr} {t u : TT}
/-! raising in parts -/
end
end DL

/-! ### instances of own classes: made, read, written -/
namespace DL
open PySem L2
section
variable {K : PySem.W.Frag} {F : Hp}
end
section
variable {K : PySem.W.Frag} {pr : List Nat} {W : WX} {te ta tv : TE} {ts : TA} {env e1 e2 e : Env} {r : Res} {rs : List Res} {i : Nat} {N B C : Env → Prop} {R : Ret → Env → Prop} {d : D} {ds : List D} {Cc : Addr} {fs : List (Str × D)} {f : Str} {o : OB}
end
/-- a class whose instances are made by a call of its name -/
structure Mf (P : Program) (w : World) (K : PySem.W.Frag) (mg : Str → Option Value) (base : Heap) (k : Nat) (x : Str) (C : Addr) (sp : Sp) : Prop where
  ex : ∃ (f : Addr) (fd : FuncData) (ps : List Str), Mk K C f ∧ FnOk P w K mg base CX0 k f fd ps sp ∧ mg x = some (.ref C) ∧ Binds K fd ps []
section
variable {X : Cx} {k j : Nat} {x : Str} {C : Addr} {sp : Sp} {p pos : Pos} {e : Expr} {es : List Expr} {t : TA}
end
theorem Mf.of {P : Program} {w : World} {K : PySem.W.Frag} {mg : Str → Option Value} {base : Heap} {k : Nat} {x : Str} {C fa : Addr} {fd : FuncData} {ps : List Str} {sp : Sp} (M : Mk K C fa) (h : FnOk P w K mg base CX0 k fa fd ps sp) (hm : mg x = some (.ref C)) (b : Binds K fd ps []) : Mf P w K mg base k x C sp := ⟨fa, fd, ps, M, h, hm, b⟩
end DL
namespace DL
open PySem L2
/-! ### try: .. except C: .. -/
def tTryO (K : PySem.W.Frag) (c : Value) (ts : TS) (tb : WX → TS) : TS := fun D σ H => tb (wOnly K c (fun _ _ _ => ts) (fun _ _ _ _ => False) D) D σ H
section
variable {K : PySem.W.Frag} {pr : List Nat} {W : WX} {env : Env} {N B C M : Env → Prop} {R : Ret → Env → Prop} {c : Value} {tb : WX → TS} {ts : TS}
end
end DL
namespace L2
open PySem PySem.Spec PyProof.Rows
theorem noI_tuple_add : typeLookup (.type "tuple") (dunderI "add") = pure none := by rw [typeLookup_type, builtinLookup_eq_fast]; kernel_rfl
section
variable {prog : Program} {w : World} {A : Around} {E : Value → Shared → Prop} {s : Shared}
theorem icat_tup {t b : Addr} {vs ws : List Value} {Q : Value → Shared → Prop} (ht : IsTup s.heap t vs.toArray) (hb : IsTup s.heap b ws.toArray) (hv : vs ≠ [])
    (h1 : ws = [] → Q (.ref t) s) (h2 : ws ≠ [] → Q (.ref s.heap.objs.size) { s with heap := s.heap.push { cls := .type "tuple", data := .seq (vs ++ ws).toArray } })
    (hsz : vs.length + ws.length ≤ sizeLine) : wpAny (model prog w) A (inplaceOp .Add (.ref t) (.ref b)) Q E s := by
  obtain ⟨⟨cls, dd, data, sl⟩, ho, hc, n, hd⟩ := id ht
  obtain ⟨⟨cls2, dd2, data2, sl2⟩, ho2, hc2, n2, hd2⟩ := id hb
  simp only at hc hd hc2 hd2
  subst hc hd hc2 hd2
  have e : vs.toArray ++ ws.toArray = (vs ++ ws).toArray := by simp
  by_cases hw : ws = []
  · exact wpAny_inplaceOp_concat ⟨_, ho, rfl⟩ ⟨_, ho2, rfl⟩ noI_tuple_add noFill_tuple_add seq_tuple_add (call_meets PySem.F.slot_tuple_add ⟨_, ho, rfl⟩ PySem.F.entry_tuple_add (PySem.F.args_tuple_add_2 _ _)
      (tuple_addW1 t b vs.toArray ws.toArray n n2 dd dd2 sl sl2 (by simpa using hv) (by simp [hw])) ⟨ho, ho2, h1 hw⟩)
  · refine wpAny_inplaceOp_concat ⟨_, ho, rfl⟩ ⟨_, ho2, rfl⟩ noI_tuple_add noFill_tuple_add seq_tuple_add (call_meets PySem.F.slot_tuple_add ⟨_, ho, rfl⟩ PySem.F.entry_tuple_add (PySem.F.args_tuple_add_2 _ _)
      (tuple_addW2 t b vs.toArray ws.toArray n n2 dd dd2 sl sl2 (by simpa using hv) (by simpa using hw) (by rw [List.size_toArray, List.size_toArray]; exact hsz)) ⟨ho, ho2, ?_⟩)
    rw [e]
    exact h2 hw
end
theorem iop_catT {X : Cx} : OpR X (inplaceOp .Add) (rCatT X.K) := by
  intro pins s σ H x y v u Q I rx ry h
  obtain ⟨a, b, xs, ys, rfl, rfl, ha, hb, hx, hz, q1, q2⟩ := h
  cases rx
  cases ry
  obtain ⟨its, r1, p1, _⟩ := I.tuple ha
  obtain ⟨its2, r2, p2, _⟩ := I.tuple hb
  refine icat_tup p1 p2 (fun z => hx (r1.nil_iff.mp z)) (fun z => ⟨.ref a, H, I, rfl, q1 (r2.nil_iff.mp z)⟩) (fun z => ?_) (by rw [← r1.length, ← r2.length]; exact hz)
  refine ⟨.ref s.heap.objs.size, _, I.laid (t' := s.toks) (o := .tup (xs ++ ys)) (fun b ob q => Heap.get?_push_of_some _ q) (Nat.le_refl _) ?_, rfl, q2 (fun w => z (r2.nil_iff.mpr w)) _ (I.hok.fresh (Nat.le_refl _))⟩
  exact ⟨by rw [List.length_append]; exact hz, _, r1.append r2, IsTup.new _ _⟩
end L2
namespace DL
open PySem L2
def ipAddT (K : PySem.W.Frag) : TIp := fun x y H Q => ipAddU x y H Q ∨ rCatT K x y H Q
theorem ip_addT {X : Cx} {K : PySem.W.Frag} (e : X.K = K := by rfl) : PIp X .Add (ipAddT K) := by
  subst e
  intro pins s σ H x y v u Q I rx ry h
  rcases h with h | h
  · exact ip_addU pins s σ H x y v u Q I rx ry h
  · exact iop_catT pins s σ H x y v u Q I rx ry h
section
variable {K : PySem.W.Frag} {pr : List Nat} {W : WX} {te : TE} {env e1 : Env} {i : Nat} {l m : List D} {N B C : Env → Prop} {R : Ret → Env → Prop}
end
end DL

/-! ### repr of tuples, where nothing is under way: in the law's own def, called from the top -/
namespace L2
open PySem PySem.Spec PyProof.Rows
/-- what a def promises where it is called from the top -/
structure RunC (P : Program) (w : World) (K : PySem.W.Frag) (mg : Str → Option Value) (base : Heap) (CX : CXT) (f : Addr) (fd : FuncData) (ps : List Str) (sp : Sp) : Prop where
  run : ∀ (outer : List Env) (s : Shared) (H : Hp) (args : Args) (us : List Value) (vs : List V) (Q : VK) (E : XK), Env0 P w K mg base callerA outer s H → BindsTo s fd args (ps.zip us) → Vals vs us → sp vs H Q E →
    codeAny (model P w) callerA (.call (.ref f) args) (CR CX outer P w H s Q E) s
theorem RunC.imp {P : Program} {w : World} {K : PySem.W.Frag} {mg : Str → Option Value} {base : Heap} {CX : CXT} {f : Addr} {fd : FuncData} {ps : List Str} {sp sp' : Sp} (R : RunC P w K mg base CX f fd ps sp) (h : ∀ vs H Q E, sp' vs H Q E → sp vs H Q E) : RunC P w K mg base CX f fd ps sp' :=
  ⟨fun outer s H args us vs Q E e b r q => R.run outer s H args us vs Q E e b r (h _ _ _ _ q)⟩
/-- the law's call from the top, by such a promise -/
theorem top_call {P : Program} {w : World} {K : PySem.W.Frag} {mg mb : Str → Option Value} {CX : CXT} {fa a : Addr} {fd : FuncData} {x : Str} {sp : Sp} {s₁ : Shared} {vs : List Value} {ns : List Int}
    (inK : K.In s₁.heap) (nsG : s₁.heap.Ns mainGlobals mg) (nsB : s₁.heap.Ns builtinsNs mb) (boot : ∀ y : Str, y ≠ "__name__" → mb y = bootBuiltins y) (noLim : s₁.heap.NoLimit) (noGen : s₁.gens = #[])
    (at_a : s₁.heap.get? a = some { cls := .type "list", data := .seq vs.toArray }) (hInts : IntsAre vs ns) (few : ns.length ≤ sizeLine)
    (F : ∀ base : Heap, K.In base → base.Ns mainGlobals mg → RunC P w K mg base CX fa fd [x] sp) (hbind : ∀ (s : Shared) (u : Value), BindsTo s fd ⟨[u], []⟩ [(x, u)])
    (hsp : ∀ H : Hp, Only H → SqL K H a (ns.map V.int) → sp [.ref a] H (fun v _ => v = .bl true) fun _ _ _ => False)
    (hCX : ∀ H e s', CX [] H s₁ (fun _ _ _ => False) e s' → False) :
    codeAny (model P w) callerA (.call (.ref fa) ⟨[.ref a], []⟩) (fun r s' => r = .ok (.ret (.bool true)) ∧ OldK s₁.heap s'.heap ∧ s'.os = s₁.os ∧ AllBare s'.gens) s₁ := by
  have rv := vals_ints hInts
  have same : vs.length = ns.length := by rw [← rv.length, List.length_map]
  obtain ⟨fz, hfz⟩ : ∃ fz : HO, fz = .frz { cls := .type "list", data := .seq vs.toArray } (.lst (ns.map V.int)) := ⟨_, rfl⟩
  obtain ⟨H, only, has⟩ : ∃ H : Hp, (∀ b u, H b = some u → b = a ∧ u = fz ∧ K.lookup a = none) ∧ (K.lookup a = none → H a = some fz) := by
    cases hk : K.lookup a with
    | some o => exact ⟨fun _ => none, fun b u e => (by cases e), fun e => (by cases e)⟩
    | none =>
      refine ⟨fun b => if b = a then some fz else none, fun b u e => ?_, fun _ => if_pos rfl⟩
      have e : (if b = a then some fz else none) = some u := e
      by_cases z : b = a
      · rw [if_pos z] at e
        cases e
        exact ⟨z, rfl, rfl⟩
      · rw [if_neg z] at e
        cases e
  have free : ∀ b, b ≠ a ∨ K.lookup b ≠ none → H b = none := fun b hb => by
    cases q : H b with
    | none => rfl
    | some u =>
      obtain ⟨z1, z2, z3⟩ := only b u q
      rcases hb with hb | hb
      · exact absurd z1 hb
      · rw [z1] at hb
        exact absurd z3 hb
  have nsH : ∀ (b : Addr) (m : Str → Option Value), s₁.heap.Ns b m → (hidT s₁.heap H).Ns b m := fun b m ⟨o, es, ep, e, dt, rest⟩ => ⟨o, es, ep, hidT_get e (free b (.inl fun z => by
    rw [z, at_a] at e
    cases e
    cases (show Data.seq vs.toArray _ = Data.dict es ep from dt))), dt, rest⟩
  have inH : K.In (hidT s₁.heap H) := fun b o e => hidT_get (inK b o e) (free b (.inr (by rw [e]; simp)))
  have okH : HOk P w H s₁.heap := fun b u e => by
    obtain ⟨z1, z2, _⟩ := only b u e
    subst z1
    rw [z2, hfz]
    exact ⟨at_a, by rw [List.length_map]; exact few, vs, _, rv, at_a⟩
  have modH : Mod K mg (hidT s₁.heap H) := ⟨inH, nsH _ _ nsG, ⟨mb, nsH _ _ nsB, boot⟩, (match noLim with | ⟨mc, l1, l2⟩ => ⟨mc, nsH _ _ l1, l2⟩)⟩
  have env0 : Env0 P w K mg (hidT s₁.heap H) callerA [] s₁ H := by
    refine ⟨rfl, modH, fun b o e => of_hidT e, Nat.le_of_eq (hidT_size _ _), trivial, fun b hb => ?_, okH, .of_eq noGen⟩
    cases (show b ∈ ([] : List Addr) from hb)
  have onlyH : Only H := fun b => by
    cases q : H b with
    | none => exact .inl rfl
    | some u => exact .inr ⟨_, _, by rw [(only b u q).2.1, hfz]⟩
  have sqH : SqL K H a (ns.map V.int) := by
    cases hk : K.lookup a with
    | none => exact .inl (.inr ⟨_, by rw [has hk, hfz]⟩)
    | some o =>
      have e := inK a o hk
      rw [at_a] at e
      cases e
      exact .inr ⟨_, vs.toArray, _, hk, rfl, rfl, rfl, by rw [List.size_toArray, same]; exact few, by simpa using rv⟩
  refine codeAny_mono ((F _ inH (nsH _ _ nsG)).run [] s₁ H ⟨[.ref a], []⟩ [.ref a] [.ref a] _ _ env0 (hbind s₁ (.ref a)) (.cons rfl .nil) (hsp H onlyH sqH)) fun r s' z => ?_
  match r, z with
  | .error e, z => exact (hCX H e s' z).elim
  | .ok .next, z => exact False.elim z
  | .ok .brk, z => exact False.elim z
  | .ok .cont, z => exact False.elim z
  | .ok (.ret u), z =>
    obtain ⟨v, H', z1, z2, z3, z4, z5, z6⟩ := z
    cases (show v = .bl true from z6)
    cases (show u = Value.bool true from z5)
    refine ⟨rfl, OldK.of_keep fun b o e => ?_, z1, z2⟩
    cases q : H b with
    | none => exact z3.keep b o e q (fun y => (by cases (show b ∈ ([] : List Addr) from y))) (by simp)
    | some u =>
      have hu : H b = some (.frz { cls := .type "list", data := .seq vs.toArray } (.lst (ns.map V.int))) := by rw [q, (only b u q).2.1, hfz]
      obtain ⟨y1, _⟩ := okH b _ hu
      obtain ⟨y2, _⟩ := z4 b _ (z3.frzs b _ _ hu)
      rw [e] at y1
      cases y1
      exact y2
end L2

namespace DL
open PySem L2
/-! ### what repr shows of data -/
section
variable {K : PySem.W.Frag} {e : Env} {r : Res} {l : List D}
end
section
variable {P : Program} {w : World} {K : PySem.W.Frag} {mg : Str → Option Value} {base : Heap} {x qn : Str} {st : Stmt} {fa : Addr} {fd : FuncData} {N ps : List Str} {k : Nat}
end
end DL

/-! ### methods of own classes that only read; isinstance of an instance -/
namespace DL
open PySem L2
/-- a method -/
structure Mt (P : Program) (w : World) (K : PySem.W.Frag) (mg : Str → Option Value) (base : Heap) (k : Nat) (C : Addr) (m : Str) (sp : Sp) : Prop where
  ex : ∃ (f : Addr) (fd : FuncData) (ps : List Str), Meth K C m f ∧ FnOk P w K mg base CX0 k f fd ps sp ∧ Binds K fd ps []
theorem Mt.of {P : Program} {w : World} {K : PySem.W.Frag} {mg : Str → Option Value} {base : Heap} {k : Nat} {m : Str} {C fa : Addr} {fd : FuncData} {ps : List Str} {sp : Sp} (M : Meth K C m fa) (h : FnOk P w K mg base CX0 k fa fd ps sp) (b : Binds K fd ps []) : Mt P w K mg base k C m sp := ⟨fa, fd, ps, M, h, b⟩
section
variable {X : Cx} {k j : Nat} {m : Str} {C : Addr} {sp : Sp} {apos pos : Pos} {o e : Expr} {es : List Expr} {t : TA} {ta : TE}
end
section
variable {K : PySem.W.Frag} {env e e1 e2 : Env} {f : List D → D → Prop} {rs : List Res} {ds : List D} {d : D} {ta : TE} {ts : TA} {E : XK} {Cc : Addr} {m : Str} {fs : List (Str × D)}
/-- what isinstance asks of an own class -/
structure InC (K : PySem.W.Frag) (C : Addr) : Prop where
  cl : Cls K C
  ha : PySem.W.findIn K (.ref C) "__class__" = some (some (.builtin "object.__class__"))
  hn : PySem.W.specialIn K (.builtin "object.__class__") "__get__" = some (some (.builtin "getset_descriptor.__get__"))
  ht : PySem.W.takesIn K (.builtin "object.__class__") = some true
  hm : PySem.W.mroIn K C (.type "object") = some true
end
end DL
/-! ### repr of tuples, ints and texts, at the top -/
namespace DL
open PySem L2
section
variable {K : PySem.W.Frag} {e : Env} {r : Res} {l : List D} {i : Int} {x : Str}
end
end DL

/-! ### instances made by an __init__ that may raise -/
namespace L2
open PySem PySem.Spec PyProof.Rows
section
variable {X : Cx} {CX : CXT} {k : Nat} {f C : Addr} {fd : FuncData} {ps : List Str} {sp : Sp} {E : St → XK} {x : Str} {p pos : Pos} {e : Expr} {es : List Expr} {t : TA}
theorem run_makeS {pins : List (Addr × Obj)} {σ : St} {H : Hp} {s : Shared} {Q : VK} {us : List Value} {vs : List V} (M : Mk X.K C f) (F : FnOk X.prog X.w X.K X.mg X.base CX k f fd ps sp) (hr : Room (k + 1) X.A) (hb : Binds X.K fd ps [])
    (hx : PassesAt CX X σ (E σ)) (I : Inv X pins σ H s) (r : Vals vs us)
    (h : ∀ x dx, H x = none → H dx = none → dx ≠ x → sp (.ref x :: vs) (upd (upd H dx (.own x)) x (.ins C dx [])) (fun v H2 => v = .non ∧ Q (.ref x) H2) (E σ)) :
    wpAny (model X.prog X.w) X.A (call (.ref C) us) (EP X pins σ Q) X.xe s := by
  have hq := h (s.heap.objs.size + 1) s.heap.objs.size (I.hok.fresh (Nat.le_succ _)) (I.hok.fresh (Nat.le_refl _)) (Nat.ne_of_lt (Nat.lt_succ_self _))
  have I2 := Inv.made (C := C) I
  have r2 : Vals (V.ref (s.heap.objs.size + 1) :: vs) (Value.ref (s.heap.objs.size + 1) :: us) := .cons rfl r
  have hl : (Value.ref (s.heap.objs.size + 1) :: us).length = ps.length := by
    have e := r2.length
    rw [F.len _ _ _ _ hq] at e
    exact e.symm
  have b := hb _ (Value.ref (s.heap.objs.size + 1) :: us) I2.kIn (by rw [List.append_nil]; exact hl)
  rw [List.append_nil] at b
  refine wpAny_call (make_map (f := f) I.kIn M.makes M.init (beq_iff_eq.mp M.fn) (codeAny_mono (F.run _ X.stack _ _ ⟨Value.ref (s.heap.objs.size + 1) :: us, []⟩ (Value.ref (s.heap.objs.size + 1) :: us) _ _ (E σ) (hr.make C us [])
    (I2.env0.make C us []) b r2 hq) fun r s' hq' => ?_))
  cases r with
  | error e => exact hx pins _ _ e s' I2 hq'
  | ok fl =>
    cases fl with
    | ret u =>
      obtain ⟨v, H', I3, rv, ev, q3⟩ := I2.after hq'
      subst ev
      exact ⟨rv, ⟨V.ref (s.heap.objs.size + 1), H', I3, rfl, q3⟩⟩
    | next => exact False.elim hq'
    | brk => exact False.elim hq'
    | cont => exact False.elim hq'
def tMakeS (C : Addr) (sp : Sp) (E : St → XK) (t : TA) : TE := fun σ H Q => t σ H fun vs H1 => ∀ x dx, H1 x = none → H1 dx = none → dx ≠ x →
  sp (.ref x :: vs) (upd (upd H1 dx (.own x)) x (.ins C dx [])) (fun v H2 => v = .non ∧ Q (.ref x) H2) (E σ)
theorem pe_makeS (M : Mk X.K C f) (F : FnOk X.prog X.w X.K X.mg X.base CX k f fd ps sp) (hr : Room (k + 1) X.A) (hg : Gl X x) (hm : X.mg x = some (.ref C)) (hb : Binds X.K fd ps []) (hx : ∀ σ, PassesAt CX X σ (E σ))
    (ha : PA X (e :: es) t) (hdb : (x == ("__debug__" : Str)) = false := by decide) (he : starEach (e :: es) X.env = (false, eval e X.env) :: starEach es X.env := by rfl) (hpl : (backTo pos (starEach es X.env)).any (·.1) = false := by rfl) :
    PE X (.Call (.Name x p) (e :: es) [] pos) (tMakeS C sp E t) := by
  refine ⟨fun pins s σ H Q I h => ?_⟩
  refine wpAny_Call_Name_kw (ld_glob I hg hm ?_ hdb)
  refine PySem.W.callWith_K (h₀ := X.base) I.ok.mod.kin M.kp (thn (ha.run pos pins s σ H _ I h) fun us s1 ⟨vs, H1, I1, r, q⟩ => ⟨I1.kIn, ?_⟩) he hpl
  exact run_makeS M F hr hb (hx σ) I1 r q
end
end L2
namespace DL
open PySem L2
structure Mx (P : Program) (w : World) (K : PySem.W.Frag) (mg : Str → Option Value) (base : Heap) (k : Nat) (x : Str) (C : Addr) (sp : Sp) : Prop where
  ex : ∃ (f : Addr) (fd : FuncData) (ps : List Str), Mk K C f ∧ FnOk P w K mg base (L2.CX P w) k f fd ps sp ∧ mg x = some (.ref C) ∧ Binds K fd ps []
theorem Mx.of {P : Program} {w : World} {K : PySem.W.Frag} {mg : Str → Option Value} {base : Heap} {k : Nat} {x : Str} {C fa : Addr} {fd : FuncData} {ps : List Str} {sp : Sp} (M : Mk K C fa) (h : FnOk P w K mg base (L2.CX P w) k fa fd ps sp) (hm : mg x = some (.ref C)) (b : Binds K fd ps []) : Mx P w K mg base k x C sp := ⟨fa, fd, ps, M, h, hm, b⟩
section
variable {X : Cx} {W : WX} {k j : Nat} {x : Str} {C : Addr} {sp : Sp} {p pos : Pos} {e : Expr} {es : List Expr} {t : TA}
theorem pe_mx (c : Mx X.prog X.w X.K X.mg X.base k x C sp) (tk : Takes X W) (hr : Room j X.A) (hk : k + 1 ≤ j) (hg : Gl X x) (ha : PA X (e :: es) t)
    (hdb : (x == ("__debug__" : Str)) = false := by decide) (he : starEach (e :: es) X.env = (false, eval e X.env) :: starEach es X.env := by rfl) (hpl : (backTo pos (starEach es X.env)).any (·.1) = false := by rfl) :
    PE X (.Call (.Name x p) (e :: es) [] pos) (tMakeS C sp (WE W) t) := by
  obtain ⟨f, fd, ps, M, F, hm, b⟩ := c.ex
  exact pe_makeS M F (hr.mono hk) hg hm b (fun σ => passAt tk σ) ha hdb he hpl
/-- .. and does not raise, where it is made -/
theorem pe_mx0 (c : Mx X.prog X.w X.K X.mg X.base k x C sp) (hr : Room j X.A) (hk : k + 1 ≤ j) (hg : Gl X x) (ha : PA X (e :: es) t)
    (hdb : (x == ("__debug__" : Str)) = false := by decide) (he : starEach (e :: es) X.env = (false, eval e X.env) :: starEach es X.env := by rfl) (hpl : (backTo pos (starEach es X.env)).any (·.1) = false := by rfl) :
    PE X (.Call (.Name x p) (e :: es) [] pos) (tMake C sp [] E0 t) := by
  obtain ⟨f, fd, ps, M, F, hm, b⟩ := c.ex
  exact pe_make M F (hr.mono hk) hg hm b .nil passL ha hdb he hpl
end
section
variable {K : PySem.W.Frag} {pr : List Nat} {W : WX} {ts : TA} {env e1 : Env} {rs : List Res} {ds : List D} {Cc Ce : Addr} {fs : List (Str × D)} {b : Bs} {F1 H1 : Hp} {oa : Nat → Addr} {σ : L2.St} {vs : List V} {x dx : Addr}
end
section
variable {P : Program} {w : World} {K : PySem.W.Frag} {mg : Str → Option Value} {base : Heap} {x qn : Str} {st : Stmt} {fa : Addr} {fd : FuncData} {N ps : List Str} {k : Nat}
end
end DL

namespace DL
open PySem L2
/-! ### rows of bits, in plain Lean -/
def Bits (l : List Int) : Prop := ∀ b, b ∈ l → b = 0 ∨ b = 1
theorem Bits.nil : Bits [] := fun _ h => by cases h
theorem Bits.append {l m : List Int} (h1 : Bits l) (h2 : Bits m) : Bits (l ++ m) := fun b h => by
  rcases List.mem_append.mp h with q | q
  · exact h1 b q
  · exact h2 b q
/-! bytes in bits -/
def Bytes (l : List Int) : Prop := ∀ b, b ∈ l → 0 ≤ b ∧ b ≤ 255
def val (l : List Int) : Int := l.foldl (fun n b => n * 256 + b) 0
end DL
namespace DL
open PySem L2
theorem sIx_some {n d : Nat} {v : Int} (h : 0 ≤ v) : HT.sIx n d (some v) = min v.toNat n := by
  show (if v < 0 then (v + (n : Int)).toNat else min v.toNat n) = _
  rw [if_neg (by omega)]
end DL

/-! ### texts: one sign in a text, join, index; a written dict; reversed(range(n)) -/
namespace DL
open PySem L2
def rSign (neg : Bool) : R2 := fun x y H Q => ∃ (c : Nat) (z : Str), x = .str ⟨#[c]⟩ ∧ y = .str z ∧ Q (.bl (if neg then !decide (c ∈ z.cps.toList) else decide (c ∈ z.cps.toList))) H
def rJoin (K : PySem.W.Frag) : V → List V → Hp → VK → Prop := fun x xs H Q => ∃ a p, ∃ ys : List Str, x = .str a ∧ xs = [.ref p] ∧ (SqL K H p (ys.map V.str) ∨ SqT K H p (ys.map V.str)) ∧
    (ys.map (·.length)).sum + ys.length * a.length ≤ 16777216 ∧ Q (.str (Txt.join a ys)) H
def rIdxS : V → List V → Hp → VK → Prop := fun x xs H Q => ∃ (a b : Str) (k : Nat), x = .str a ∧ xs = [.str b] ∧ Txt.index0 a b = some k ∧ Q (.int (k : Nat)) H
section
variable {X : Cx} {o e : Expr} {to te : TE} {apos pos : Pos}
end
section
variable {K : PySem.W.Frag} {e env e1 e2 : Env} {to te : TE} {r : Res} {a b z : Str} {ys : List Str} {k : Nat} {c : Nat} {neg : Bool} {da : Addr} {w : World} {d : D} {n : Int}
end
end DL

/-! ## dicts whose keys are nested tuples of ints (and None): told by what is true of their one object -/
namespace L2
open PySem PySem.Spec PyProof.Rows
mutual
def hash0 : NestedKey → Int
  | .none => reduceHash 0xFCA86420
  | .num i => hashInt i
  | .text _ => 0
  | .tup ks => reduceHash (Builtin.Tuple.tupleHashOf (hashes0 ks))
def hashes0 : List NestedKey → List Int
  | [] => []
  | k :: ks => hash0 k :: hashes0 ks
end
mutual
/-- the value is the key -/
inductive NKey (H : Hp) : V → NestedKey → Prop
  | non : NKey H .non .none
  | int (i : Int) : NKey H (.int i) (.num i)
  | tup {a : Addr} {vs : List V} {ks : List NestedKey} : H a = some (.tup vs) → NKeys H vs ks → NKey H (.ref a) (.tup ks)
inductive NKeys (H : Hp) : List V → List NestedKey → Prop
  | nil : NKeys H [] []
  | cons {v : V} {k : NestedKey} {vs : List V} {ks : List NestedKey} : NKey H v k → NKeys H vs ks → NKeys H (v :: vs) (k :: ks)
end
section
variable {P : Program} {w : World} {H H' : Hp} {h : Heap}
mutual
theorem NKey.mono (e : ∀ a xs, H a = some (.tup xs) → H' a = some (.tup xs)) : ∀ {v : V} {k : NestedKey}, NKey H v k → NKey H' v k
  | _, _, .non => .non
  | _, _, .int i => .int i
  | _, _, .tup h r => .tup (e _ _ h) (NKeys.mono e r)
theorem NKeys.mono (e : ∀ a xs, H a = some (.tup xs) → H' a = some (.tup xs)) : ∀ {vs : List V} {ks : List NestedKey}, NKeys H vs ks → NKeys H' vs ks
  | _, _, .nil => .nil
  | _, _, .cons h r => .cons (NKey.mono e h) (NKeys.mono e r)
end
mutual
theorem NKey.is (ok : HOk P w H h) : ∀ {v : V} {k : NestedKey} {u : Value}, NKey H v k → RelV v u → NestedIs h k u
  | _, _, _, .non, r => by cases r; exact .none
  | _, _, _, .int i, r => by obtain ⟨t, rfl⟩ := r; exact .int i t
  | _, _, _, .tup (vs := vs) e q, r => by
    cases r
    obtain ⟨_, its, rv, o, ho, hc, n, hd⟩ := (show ObjOk P w H h _ (.tup vs) from ok _ _ e)
    exact .tup ho hc hd (by simpa using NKeys.is ok q rv)
theorem NKeys.is (ok : HOk P w H h) : ∀ {vs : List V} {ks : List NestedKey} {us : List Value}, NKeys H vs ks → Vals vs us → NestedAll h ks us
  | _, _, _, .nil, r => by cases r; exact .nil
  | _, _, _, .cons h1 t, r => by
    cases r with
    | cons r1 r2 => exact .cons (NKey.is ok h1 r1) (NKeys.is ok t r2)
end
end
def ndE (x : NestedKey × Addr × Value) : DictEntry := ⟨hash0 x.1, .ref x.2.1, x.2.2⟩
def NdV : (NestedKey × Addr × V) → (NestedKey × Addr × Value) → Prop := fun p q => p.1 = q.1 ∧ p.2.1 = q.2.1 ∧ RelV p.2.2 q.2.2
/-- the dict's own object at a -/
def NdO (a : Addr) (kvs : List (NestedKey × Addr × V)) : HO := .ext fun h => ∃ xs : List (NestedKey × Addr × Value), Paired NdV kvs xs ∧ ∃ (o : Obj) (es : Array DictEntry) (ep : Nat), h.get? a = some o ∧ o.ExactDict ∧ o.data = .dict es ep ∧ es.toList = xs.map ndE
structure NdOk (H : Hp) (a : Addr) (kvs : List (NestedKey × Addr × V)) : Prop where
  sm : (a == sysModules) = false
  sz : kvs.length ≤ sizeLine
  nd : (kvs.map (·.1)).Nodup
  ks : ∀ e ∈ kvs, NKey H (.ref e.2.1) e.1 ∧ e.1.depth ≤ 8
theorem NdOk.mono {H H' : Hp} {a : Addr} {kvs : List (NestedKey × Addr × V)} (h : NdOk H a kvs) (e : ∀ a xs, H a = some (.tup xs) → H' a = some (.tup xs)) : NdOk H' a kvs := ⟨h.sm, h.sz, h.nd, fun x hx => ⟨(h.ks x hx).1.mono e, (h.ks x hx).2⟩⟩
theorem exists_val : ∀ v : V, ∃ u, RelV v u
  | .non => ⟨_, rfl⟩
  | .bl _ => ⟨_, rfl⟩
  | .int i => ⟨.int i 0, 0, rfl⟩
  | .str x => ⟨.str x 0, 0, rfl⟩
  | .byt b => ⟨.bytes b 0, 0, rfl⟩
  | .flt b => ⟨.float b 0, 0, rfl⟩
  | .ref _ => ⟨_, rfl⟩
  | .ty _ => ⟨_, rfl⟩
theorem ndO_code (a : Addr) (kvs : List (NestedKey × Addr × V)) (c : Addr) (q : Str) : NdO a kvs ≠ LamX.CodeO c q := fun z => by
  unfold NdO LamX.CodeO at z
  injection z with z
  have pv : ∃ xs : List (NestedKey × Addr × Value), Paired NdV kvs xs := by
    clear z
    induction kvs with
    | nil => exact ⟨[], .nil⟩
    | cons e r ih =>
      obtain ⟨xs, hx⟩ := ih
      obtain ⟨u, hu⟩ := exists_val e.2.2
      exact ⟨(e.1, e.2.1, u) :: xs, .cons ⟨rfl, rfl, hu⟩ hx⟩
  obtain ⟨xs, hx⟩ := pv
  let ob : Obj := { cls := .type "dict", data := .dict (xs.map ndE).toArray }
  let hh : Heap := ⟨Array.replicate (a + c + 1) ob, {}⟩
  have ga : ∀ b, b ≤ a + c → hh.get? b = some ob := fun b hb => by
    have e : hh.objs[b]? = some ob := by
      show (Array.replicate (a + c + 1) ob)[b]? = some ob
      rw [Array.getElem?_replicate, if_pos (Nat.lt_succ_of_le hb)]
    unfold Heap.get?
    rw [e]
  have h1 := congrFun z hh
  have h2 : ∃ xs : List (NestedKey × Addr × Value), Paired NdV kvs xs ∧ ∃ (o : Obj) (es : Array DictEntry) (ep : Nat), hh.get? a = some o ∧ o.ExactDict ∧ o.data = .dict es ep ∧ es.toList = xs.map ndE :=
    ⟨xs, hx, ob, (xs.map ndE).toArray, 0, ga a (Nat.le_add_right a c), ⟨rfl, rfl, rfl⟩, rfl, by simp⟩
  rw [h1] at h2
  obtain ⟨oc, vs, t, e1, e2, _⟩ := h2
  rw [ga c (Nat.le_add_left c a)] at e1
  cases e1
  cases e2
section
variable {X : Cx} {pins : List (Addr × Obj)} {σ : St} {H : Hp} {s : Shared} {a : Addr} {y v d : V} {u r : Value} {A : Around} {E : Value → Shared → Prop} {kvs : List (NestedKey × Addr × V)} {k : NestedKey}
/-- the key at hand -/
def NK (H : Hp) (y : V) (k : NestedKey) : Prop := ∃ b, y = .ref b ∧ NKey H y k ∧ k.depth ≤ 8
theorem NK.is (I : Inv X pins σ H s) (h : NK H y k) (ry : RelV y u) : ∃ b, u = .ref b ∧ y = .ref b ∧ (nestedKind X.prog X.w).is s.heap k b := by
  obtain ⟨b, rfl, h1, h2⟩ := h
  obtain rfl : u = Value.ref b := ry
  exact ⟨b, rfl, rfl, h1.is I.hok rfl, h2⟩
end
end L2

/-! ## plain functions for the defs (no program in sight) -/
namespace SM
open PySem L2

/-- data; an object that may change is told by its place in a plain heap -/
inductive D where
  | non | bl (b : Bool) | int (i : Int) | str (x : Str) | ty (n : String)
  | tup (l : List D) | wt (l : List D) | scr (l : List D) | ref (i : Nat) | nm (x : String) | exc (C : String)
instance : Inhabited D := ⟨.non⟩
inductive O where
  | lst (l : List D)
  /-- t: its keys are tuples; lk: a loop walks it -/
  | dic (t lk : Bool) (kvs : List (D × D))
  | obj (C : String) (fs : List (String × D))
  /-- a dict whose keys are nested tuples -/
  | nd (l : List (NestedKey × D))
abbrev Hs := List O
abbrev Sl := List (Option D)
inductive RE (α : Type) where
  | ok (a : α) (A : Hs) | exc (C : String) (A : Hs) | stuck
def RE.bind {α β : Type} (r : RE α) (f : α → Hs → RE β) : RE β := match r with
  | .ok a A => f a A
  | .exc C A => .exc C A
  | .stuck => .stuck
/-- an exception has no road from here -/
def RE.noX {α : Type} : RE α → RE α
  | .ok a A => .ok a A
  | _ => .stuck
abbrev E := Sl → Hs → RE D
abbrev Tt := Sl → Hs → RE Bool
abbrev As := Sl → Hs → RE (List D)
abbrev Fn := List D → Hs → RE D
inductive RS where
  | nx (σ : Sl) (A : Hs) | bk (σ : Sl) (A : Hs) | ct (σ : Sl) (A : Hs) | rt (d : D) (A : Hs) | exc (C : String) (σ : Sl) (A : Hs) | stuck
abbrev S := Sl → Hs → RS
/-- a new object -/
def alloc (A : Hs) (o : O) : RE D := .ok (.ref A.length) (A ++ [o])

def eVar (i : Nat) : E := fun env A => match env[i]? with
  | some (some d) => .ok d A
  | _ => .stuck
def eC (d : D) : E := fun _ A => .ok d A
def eOp (o : D → D → Hs → RE D) (a b : E) : E := fun env A => (a env A).bind fun x A1 => (b env A1).bind fun y A2 => o x y A2
def eUn (o : D → Hs → RE D) (a : E) : E := fun env A => (a env A).bind fun x A1 => o x A1
def aNil : As := fun _ A => .ok [] A
def aCons (a : E) (as : As) : As := fun env A => (a env A).bind fun x A1 => (as env A1).bind fun xs A2 => .ok (x :: xs) A2
def eCB (f : List D → Hs → RE D) (as : As) : E := fun env A => (as env A).bind fun ds A1 => f ds A1
/-- a call where nothing that is raised has a road -/
def eCall0 (f : Fn) (as : As) : E := fun env A => (as env A).bind fun ds A1 => (f ds A1).noX
def eCall (f : Fn) (as : As) : E := fun env A => (as env A).bind fun ds A1 => f ds A1
def make (C : String) (f : Fn) (ds : List D) (A1 : Hs) : RE D := match f (.ref A1.length :: ds) (A1 ++ [.obj C []]) with
    | .ok .non A2 => .ok (.ref A1.length) A2
    | .exc X A2 => .exc X A2
    | _ => .stuck
def eMake0 (C : String) (f : Fn) (as : As) : E := fun env A => (as env A).bind fun ds A1 => (make C f ds A1).noX
def eMake (C : String) (f : Fn) (as : As) : E := fun env A => (as env A).bind fun ds A1 => make C f ds A1
/-- the class of an object, its fields -/
def objAt (A : Hs) : D → Option (String × List (String × D))
  | .ref i => match A[i]? with
    | some (.obj C fs) => some (C, fs)
    | _ => none
  | _ => none
/-- what holds of all -/
def AllC (P : String → Prop) : List String → Prop
  | [] => True
  | c :: r => P c ∧ AllC P r
theorem AllC.of {P : String → Prop} {c : String} : ∀ {l : List String}, AllC P l → c ∈ l → P c
  | _ :: r, h, q => by
    rcases List.mem_cons.mp q with z | z
    · rw [z]; exact h.1
    · exact AllC.of h.2 z
def methOf (m : String) (tbl : List (String × Fn)) (A : Hs) (x : D) : Option Fn := match objAt A x with
  | some (C, fs) => if (fs.lookup m).isSome then none else tbl.lookup C
  | none => none
def eMeth (m : String) (tbl : List (String × Fn)) (o : E) (as : As) : E := fun env A => (o env A).bind fun x A1 => match methOf m tbl A1 x with
  | some f => (as env A1).bind fun ds A2 => f (x :: ds) A2
  | none => .stuck
def eMeth0 (m : String) (tbl : List (String × Fn)) (o : E) (as : As) : E := fun env A => (o env A).bind fun x A1 => match methOf m tbl A1 x with
  | some f => (as env A1).bind fun ds A2 => (f (x :: ds) A2).noX
  | none => .stuck
/-- o.f, o of one of the classes cs -/
def getFld (cs : List String) (f : String) (A : Hs) (x : D) : Option D := match objAt A x with
  | some (C, fs) => if C ∈ cs then fs.lookup f else none
  | none => none
def eFld (cs : List String) (f : String) (o : E) : E := fun env A => (o env A).bind fun x A1 => match getFld cs f A1 x with
  | some d => .ok d A1
  | none => .stuck
def eAnd (a b : E) : E := fun env A => (a env A).bind fun x A1 => match x with
  | .bl true => b env A1
  | .bl false => .ok (.bl false) A1
  | _ => .stuck
def eOr (a b : E) : E := fun env A => (a env A).bind fun x A1 => match x with
  | .bl false => b env A1
  | .bl true => .ok (.bl true) A1
  | _ => .stuck
def eNot (a : E) : E := fun env A => (a env A).bind fun x A1 => match x with
  | .bl c => .ok (.bl (!c)) A1
  | _ => .stuck
/-- a < b < c -/
def eCh (o o' : D → D → Hs → RE D) (a b c : E) : E := fun env A => (a env A).bind fun x A1 => (b env A1).bind fun y A2 => (o x y A2).bind fun z A3 => match z with
  | .bl false => .ok (.bl false) A3
  | .bl true => (c env A3).bind fun w A4 => o' y w A4
  | _ => .stuck
def tOf (a : E) : Tt := fun env A => (a env A).bind fun x A1 => match x with
  | .bl c => .ok c A1
  | _ => .stuck
def tAn (a b : Tt) : Tt := fun env A => (a env A).bind fun c A1 => if c = true then b env A1 else .ok false A1
def tOo (a b : Tt) : Tt := fun env A => (a env A).bind fun c A1 => if c = true then .ok true A1 else b env A1
def tNo (a : Tt) : Tt := fun env A => (a env A).bind fun c A1 => .ok (!c) A1
def tYe : Tt := fun _ A => .ok true A
def eIf (t : Tt) (a b : E) : E := fun env A => (t env A).bind fun c A1 => if c = true then a env A1 else b env A1
def eTup (as : As) : E := fun env A => (as env A).bind fun ds A1 => if ds.length ≤ sizeLine then .ok (.tup ds) A1 else .stuck
def eLst (as : As) : E := fun env A => (as env A).bind fun ds A1 => if ds.length ≤ sizeLine then alloc A1 (.lst ds) else .stuck
def eDNew (t : Bool) : E := fun _ A => alloc A (.dic t false [])
def oNo : Sl → Hs → RE (Option Int) := fun _ A => .ok none A
def oSo (a : E) : Sl → Hs → RE (Option Int) := fun env A => (a env A).bind fun x A1 => match x with
  | .int i => .ok (some i) A1
  | _ => .stuck
def eSl (o : D → Option Int → Option Int → Hs → RE D) (a : E) (l h : Sl → Hs → RE (Option Int)) : E := fun env A => (a env A).bind fun x A1 => (l env A1).bind fun lo A2 => (h env A2).bind fun hi A3 => o x lo hi A3

/-! ### statements -/
def sSeq (a b : S) : S := fun env A => match a env A with
  | .nx env' A' => b env' A'
  | r => r
def sNx : S := fun env A => .nx env A
def sBk : S := fun env A => .bk env A
def sCt : S := fun env A => .ct env A
def ofE (env : Sl) (r : RE D) (k : D → Hs → RS) : RS := match r with
  | .ok d A => k d A
  | .exc C A => .exc C env A
  | .stuck => .stuck
def ofT (env : Sl) (r : RE Bool) (k : Bool → Hs → RS) : RS := match r with
  | .ok d A => k d A
  | .exc C A => .exc C env A
  | .stuck => .stuck
def sDrop (a : E) : S := fun env A => ofE env (a env A) fun _ A1 => .nx env A1
def sRet (a : E) : S := fun env A => ofE env (a env A) fun d A1 => .rt d A1
def sRetN : S := fun _ A => .rt .non A
def sIf (t : Tt) (a b : S) : S := fun env A => ofT env (t env A) fun c A1 => if c = true then a env A1 else b env A1
/-- targets -/
abbrev G := D → Sl → Hs → Option Sl
def gN (i : Nat) : G := fun d env _ => some (env.set i (some d))
def gAll : List G → List D → Sl → Hs → Option Sl
  | [], [], env, _ => some env
  | g :: gs, d :: ds, env, A => match g d env A with
    | some env' => gAll gs ds env' A
    | none => none
  | _, _, _, _ => none
def gT (gs : List G) : G := fun d env A => match d with
  | .tup ds => gAll gs ds env A
  | _ => none
def sAsg (a : E) (g : G) : S := fun env A => ofE env (a env A) fun d A1 => match g d env A1 with
  | some env' => .nx env' A1
  | none => .stuck
def sSet (i : Nat) (a : E) : S := fun env A => ofE env (a env A) fun d A1 => .nx (env.set i (some d)) A1
/-- a, b = x, y -/
def sPar (i j : Nat) (as : As) : S := fun env A => match as env A with
  | .ok [x, y] A1 => .nx ((env.set i (some x)).set j (some y)) A1
  | .exc C A1 => .exc C env A1
  | _ => .stuck
def sAug (i : Nat) (o : D → D → Hs → RE D) (a : E) : S := fun env A => match env[i]? with
  | some (some x) => ofE env (a env A) fun y A1 => ofE env (o x y A1) fun z A2 => .nx (env.set i (some z)) A2
  | _ => .stuck
def putF (f : String) (d : D) : List (String × D) → List (String × D)
  | [] => [(f, d)]
  | (g, e) :: r => if g = f then (g, d) :: r else (g, e) :: putF f d r
def setFld (cs : List String) (A : Hs) (x : D) (f : String) (d : D) : Option Hs := match x with
  | .ref i => match A[i]? with
    | some (.obj C fs) => if C ∈ cs ∧ fs.length < 999 then some (A.set i (.obj C (putF f d fs))) else none
    | _ => none
  | _ => none
/-- o.f = e -/
def sFl (cs : List String) (f : String) (o a : E) : S := fun env A => ofE env (a env A) fun d A1 => ofE env (o env A1) fun x A2 => match setFld cs A2 x f d with
  | some A3 => .nx env A3
  | none => .stuck
/-- o.f op= e -/
def sFlAug (cs : List String) (f : String) (op : D → D → Hs → RE D) (o a : E) : S := fun env A => ofE env (o env A) fun x A1 => match getFld cs f A1 x with
  | some v => ofE env (a env A1) fun y A2 => ofE env (op v y A2) fun z A3 => match setFld cs A3 x f z with
    | some A4 => .nx env A4
    | none => .stuck
  | none => .stuck
/-- what is walked: the items; what must stand for the walk to go on -/
structure Wk where
  ds : List D
  gd : Hs → Prop
open Classical in
noncomputable def forL (g : G) (b : S) (gd : Hs → Prop) : List D → S
  | [], env, A => if gd A then .nx env A else .stuck
  | d :: ds, env, A => if gd A then match g d env A with
    | some env1 => match b env1 A with
      | .nx env2 A2 => forL g b gd ds env2 A2
      | .ct env2 A2 => forL g b gd ds env2 A2
      | .bk env2 A2 => .nx env2 A2
      | r => r
    | none => .stuck
    else .stuck
noncomputable def sFor (w : Sl → Hs → RE Wk) (g : G) (b : S) : S := fun env A => match w env A with
  | .ok k A1 => forL g b k.gd k.ds env A1
  | .exc C A1 => .exc C env A1
  | .stuck => .stuck
/-- the slots of a block's own names, not known -/
def wipeS (env : Sl) : List Nat → Sl
  | [] => env
  | v :: vs => (wipeS env vs).set v none
open Classical in
noncomputable def lcL (g : G) (t : Tt) (a : E) (gd : Hs → Prop) (env : Sl) : List D → List D → Hs → RE (List D)
  | [], acc, A => if gd A then .ok acc A else .stuck
  | d :: ds, acc, A => if gd A then match g d env A with
    | some env1 => match t env1 A with
      | .ok true A1 => match a env1 A1 with
        | .ok x A2 => if acc.length < sizeLine then lcL g t a gd env ds (acc ++ [x]) A2 else .stuck
        | _ => .stuck
      | .ok false A1 => lcL g t a gd env ds acc A1
      | _ => .stuck
    | none => .stuck
    else .stuck
/-- a list comprehension; vs: the block's own slots -/
noncomputable def eLc (w : Sl → Hs → RE Wk) (g : G) (t : Tt) (a : E) (vs : List Nat) : E := fun env A => (w env A).bind fun k A1 => match lcL g t a k.gd (wipeS env vs) k.ds [] A1 with
  | .ok l A2 => alloc A2 (.lst l)
  | _ => .stuck
/-- a def by its body: n parameters, m names -/
def mkFn (n m : Nat) (b : S) : Fn := fun ds A => if ds.length = n then match b (ds.map some ++ List.replicate (m - n) none) A with
    | .nx _ A' => .ok .non A'
    | .rt d A' => .ok d A'
    | .exc C _ A' => .exc C A'
    | _ => .stuck
  else .stuck
/-- raise C('..') -/
def sRaise (C : String) : S := fun env A => .exc C env A
/-- try: b / except (catches) as i: slot j = it -/
def sTryK (catches : List String) (i j : Nat) (b : S) : S := fun env A => match b env A with
  | .exc C env1 A1 => if C ∈ catches then .nx (((env1.set i (some (.exc C))).set j (some (.exc C))).set i none) A1 else .stuck
  | r => r
/-- try: b / except (catches): s -/
def sTryO (catches : List String) (b s : S) : S := fun env A => match b env A with
  | .exc C env1 A1 => if C ∈ catches then s env1 A1 else .stuck
  | r => r

end SM

/-! ## how the plain functions stand to the program: the relation of the heaps -/
namespace SM
open PySem L2
open DL (Ex ExK)

/-- where the names' things stand; T: the tables of code objects, the names in them -/
structure CaT where
  fn : String → Addr
  T : List (Addr × Str)
instance : CoeFun CaT (fun _ => String → Addr) := ⟨CaT.fn⟩
/-- free, or a table of code objects -/
def Fr1 (H : Hp) (a : Addr) : Prop := ∀ u, H a = some u → ∃ ps, u = .tbl ps
theorem Fr1.none {H : Hp} {a : Addr} (h : H a = none) : Fr1 H a := fun u e => by rw [h] at e; cases e
theorem Fr1.back {H H' : Hp} {a : Addr} (h : Fr1 H' a) (k : ∀ u, H a = some u → H' a = some u) : Fr1 H a := fun u e => h u (k u e)
/-- no table, no code object -/
def Ordy : HO → Prop
  | .lst _ => True
  | .dK _ => True
  | .dT _ => True
  | .ins _ _ _ => True
  | .frz _ _ => True
  | .tup _ => True
  | .ext φ => ∃ a kvs, HO.ext φ = NdO a kvs
  | _ => False
theorem ndO_ordy {a : Addr} {kvs : List (NestedKey × Addr × V)} : Ordy (NdO a kvs) := by
  unfold NdO; exact ⟨a, kvs, rfl⟩
theorem Ordy.tbl {u : HO} (o : Ordy u) (ps : Array Value) : u ≠ .tbl ps := fun z => by rw [z] at o; exact o
theorem Ordy.code {u : HO} (o : Ordy u) (c : Addr) (q : Str) : u ≠ LamX.CodeO c q := fun z => by
  rw [z] at o
  obtain ⟨a, kvs, e⟩ := (show ∃ a kvs, LamX.CodeO c q = NdO a kvs from o)
  exact ndO_code a kvs c q e.symm
theorem Fr1.no {H : Hp} {a : Addr} {u : HO} (h : Fr1 H a) (e : H a = some u) (o : Ordy u) : False := by
  obtain ⟨ps, z⟩ := h u e
  exact o.tbl ps z
theorem tabs_upd {T : List (Addr × Str)} {H : Hp} {a : Addr} {u w : HO} (h : LamX.Tabs T H) (e : H a = some w) (o : Ordy w) : LamX.Tabs T (upd H a u) := fun p hp => by
  obtain ⟨ps, h1, h2, h3⟩ := h p hp
  refine ⟨ps, ?_, h2, fun pos cv hc => ?_⟩
  · rw [upd_ne fun z => by rw [z, e] at h1; exact o.tbl ps (Option.some.inj h1)]; exact h1
  · obtain ⟨c, e1, e2⟩ := h3 pos cv hc
    exact ⟨c, e1, by rw [upd_ne fun z => by rw [z, e] at e2; exact o.code _ _ (Option.some.inj e2)]; exact e2⟩
/-- m begins m' -/
abbrev Pre (m m' : List Addr) : Prop := ∃ r, m' = m ++ r
theorem Pre.refl (m : List Addr) : Pre m m := ⟨[], by simp⟩
theorem Pre.trans {a b c : List Addr} (x : Pre a b) (y : Pre b c) : Pre a c := by
  obtain ⟨r, rfl⟩ := x; obtain ⟨s, rfl⟩ := y; exact ⟨r ++ s, by simp⟩
theorem Pre.get {m m' : List Addr} {i : Nat} {a : Addr} (x : Pre m m') (h : m[i]? = some a) : m'[i]? = some a := by
  obtain ⟨r, rfl⟩ := x
  rw [List.getElem?_append_left (List.getElem?_eq_some_iff.mp h).1]; exact h
theorem Pre.mem {m m' : List Addr} {a : Addr} (x : Pre m m') (h : a ∈ m) : a ∈ m' := by
  obtain ⟨r, rfl⟩ := x; exact List.mem_append_left _ h

mutual
inductive Rep (K : PySem.W.Frag) (ca : CaT) (F : Hp) (m : List Addr) : V → D → Prop
  | non : Rep K ca F m .non .non
  | bl (b : Bool) : Rep K ca F m (.bl b) (.bl b)
  | int (i : Int) : Rep K ca F m (.int i) (.int i)
  | str (x : Str) : Rep K ca F m (.str x) (.str x)
  | ty (n : String) : Rep K ca F m (.ty n) (.ty n)
  | tup {a : Addr} {vs : List V} {l : List D} : F a = some (.tup vs) → RepL K ca F m vs l → Rep K ca F m (.ref a) (.tup l)
  | wt {a : Addr} {vs : List V} {l : List D} : SqT K F a vs → RepL K ca F m vs l → Rep K ca F m (.ref a) (.wt l)
  | scr {a : Addr} {vs : List V} {l : List D} : SqL K F a vs → RepL K ca F m vs l → Rep K ca F m (.ref a) (.scr l)
  | ref {a : Addr} {i : Nat} : m[i]? = some a → Rep K ca F m (.ref a) (.ref i)
  | nm (x : String) : Rep K ca F m (.ref (ca x)) (.nm x)
  | exc {a : Addr} {C : String} : F a = some (ExK (ca C) a) → Rep K ca F m (.ref a) (.exc C)
inductive RepL (K : PySem.W.Frag) (ca : CaT) (F : Hp) (m : List Addr) : List V → List D → Prop
  | nil : RepL K ca F m [] []
  | cons {v : V} {vs : List V} {d : D} {ds : List D} : Rep K ca F m v d → RepL K ca F m vs ds → RepL K ca F m (v :: vs) (d :: ds)
end
section
variable {K : PySem.W.Frag} {ca : CaT} {F F' : Hp} {m m' : List Addr}
mutual
theorem Rep.mono (e : Ex F F') (p : Pre m m') : ∀ {v : V} {d : D}, Rep K ca F m v d → Rep K ca F' m' v d
  | _, _, .non => .non
  | _, _, .bl b => .bl b
  | _, _, .int i => .int i
  | _, _, .str x => .str x
  | _, _, .ty n => .ty n
  | _, _, .tup h r => .tup (e _ _ h) (RepL.mono e p r)
  | _, _, .wt h r => .wt (e.t h) (RepL.mono e p r)
  | _, _, .scr h r => .scr (e.l h) (RepL.mono e p r)
  | _, _, .ref h => .ref (p.get h)
  | _, _, .nm x => .nm x
  | _, _, .exc h => .exc (e _ _ h)
theorem RepL.mono (e : Ex F F') (p : Pre m m') : ∀ {vs : List V} {ds : List D}, RepL K ca F m vs ds → RepL K ca F' m' vs ds
  | _, _, .nil => .nil
  | _, _, .cons h r => .cons (Rep.mono e p h) (RepL.mono e p r)
end
theorem RepL.length : ∀ {vs : List V} {ds : List D}, RepL K ca F m vs ds → vs.length = ds.length
  | _, _, .nil => rfl
  | _, _, .cons _ r => by rw [List.length_cons, List.length_cons, r.length]
theorem RepL.get : ∀ {vs : List V} {ds : List D} {i : Nat} {d : D}, RepL K ca F m vs ds → ds[i]? = some d → ∃ v, vs[i]? = some v ∧ Rep K ca F m v d
  | _, _, _, _, .nil, h => by simp at h
  | _, _, 0, _, .cons h _, e => by simp at e; subst e; exact ⟨_, rfl, h⟩
  | _, _, i + 1, _, .cons _ r, e => by
    obtain ⟨v, h1, h2⟩ := RepL.get (i := i) r (by simpa using e)
    exact ⟨v, by simpa using h1, h2⟩
theorem RepL.append : ∀ {vs ws : List V} {ds es : List D}, RepL K ca F m vs ds → RepL K ca F m ws es → RepL K ca F m (vs ++ ws) (ds ++ es)
  | _, _, _, _, .nil, s => s
  | _, _, _, _, .cons h r, s => .cons h (RepL.append r s)
theorem RepL.take : ∀ {vs : List V} {ds : List D} (n : Nat), RepL K ca F m vs ds → RepL K ca F m (vs.take n) (ds.take n)
  | _, _, 0, _ => .nil
  | _, _, _ + 1, .nil => .nil
  | _, _, n + 1, .cons h r => .cons h (RepL.take n r)
theorem RepL.drop : ∀ {vs : List V} {ds : List D} (n : Nat), RepL K ca F m vs ds → RepL K ca F m (vs.drop n) (ds.drop n)
  | _, _, 0, r => r
  | _, _, _ + 1, .nil => .nil
  | _, _, n + 1, .cons _ r => RepL.drop n r
theorem RepL.set {v : V} {d : D} (h : Rep K ca F m v d) : ∀ {vs : List V} {ds : List D} (n : Nat), RepL K ca F m vs ds → RepL K ca F m (vs.set n v) (ds.set n d)
  | _, _, _, .nil => .nil
  | _, _, 0, .cons _ r => .cons h r
  | _, _, n + 1, .cons q r => .cons q (RepL.set h n r)
theorem RepL.reverse : ∀ {vs : List V} {ds : List D}, RepL K ca F m vs ds → RepL K ca F m vs.reverse ds.reverse
  | _, _, .nil => .nil
  | _, _, .cons h r => by
    rw [List.reverse_cons, List.reverse_cons]
    exact (RepL.reverse r).append (.cons h .nil)
theorem RepL.eraseIdx : ∀ {vs : List V} {ds : List D} (n : Nat), RepL K ca F m vs ds → RepL K ca F m (vs.eraseIdx n) (ds.eraseIdx n)
  | _, _, _, .nil => .nil
  | _, _, 0, .cons _ r => r
  | _, _, n + 1, .cons q r => .cons q (RepL.eraseIdx n r)
theorem RepL.flatRep {vs : List V} {ds : List D} (h : RepL K ca F m vs ds) : ∀ n : Nat, RepL K ca F m (List.replicate n vs).flatten (List.replicate n ds).flatten
  | 0 => .nil
  | n + 1 => by
    rw [List.replicate_succ, List.replicate_succ, List.flatten_cons, List.flatten_cons]
    exact h.append (RepL.flatRep h n)
/-- ints, truths, texts: the values are those of the data -/
theorem RepL.ints : ∀ {vs : List V} {ns : List Int}, RepL K ca F m vs (ns.map D.int) → vs = ns.map V.int
  | _, [], h => by cases h; rfl
  | _, n :: r, h => by
    cases h with
    | cons q t => cases q; rw [RepL.ints t]; rfl
theorem RepL.bools : ∀ {vs : List V} {ns : List Bool}, RepL K ca F m vs (ns.map D.bl) → vs = ns.map V.bl
  | _, [], h => by cases h; rfl
  | _, n :: r, h => by
    cases h with
    | cons q t => cases q; rw [RepL.bools t]; rfl
theorem RepL.of_ints : ∀ {ns : List Int}, RepL K ca F m (ns.map V.int) (ns.map D.int)
  | [] => .nil
  | n :: _ => .cons (.int n) RepL.of_ints
end
/-- keys -/
def kD : Key → D
  | .inl i => .int i
  | .inr x => .str x
def kT (l : List Key) : D := .tup (l.map kD)
inductive KvR (K : PySem.W.Frag) (ca : CaT) (F : Hp) (m : List Addr) {κ δ : Type} (kd : κ → δ) : List (κ × V) → List (δ × D) → Prop
  | nil : KvR K ca F m kd [] []
  | cons {k : κ} {v : V} {d : D} {r : List (κ × V)} {s : List (δ × D)} : Rep K ca F m v d → KvR K ca F m kd r s → KvR K ca F m kd ((k, v) :: r) ((kd k, d) :: s)
theorem KvR.mono {K : PySem.W.Frag} {ca : CaT} {F F' : Hp} {m m' : List Addr} {κ δ : Type} {kd : κ → δ} (e : Ex F F') (p : Pre m m') : ∀ {l : List (κ × V)} {s : List (δ × D)}, KvR K ca F m kd l s → KvR K ca F' m' kd l s
  | _, _, .nil => .nil
  | _, _, .cons h r => .cons (h.mono e p) (KvR.mono e p r)
theorem KvR.length {K : PySem.W.Frag} {ca : CaT} {F : Hp} {m : List Addr} {κ δ : Type} {kd : κ → δ} : ∀ {l : List (κ × V)} {s : List (δ × D)}, KvR K ca F m kd l s → l.length = s.length
  | _, _, .nil => rfl
  | _, _, .cons _ r => by rw [List.length_cons, List.length_cons, KvR.length r]
/-- the object u stands at a, locked or not -/
def At (H : Hp) (a : Addr) : Bool → HO → Prop
  | false, u => H a = some u
  | true, u => ∃ od, H a = some (.frz od u)
def fS (f : String) : Str := ⟨(f.toList.map Char.toNat).toArray⟩
theorem fS_inj {f g : String} : fS f = fS g ↔ f = g := by
  refine ⟨fun h => ?_, fun h => by rw [h]⟩
  unfold fS at h
  injection h with h
  have h2 : f.toList.map Char.toNat = g.toList.map Char.toNat := by
    have := congrArg Array.toList h
    simpa using this
  have inj : ∀ a b : Char, a.toNat = b.toNat → a = b := fun a b e => Char.ext (UInt32.toNat_inj.mp e)
  have h3 : ∀ (l m : List Char), l.map Char.toNat = m.map Char.toNat → l = m := by
    intro l
    induction l with
    | nil => intro m h; cases m with
      | nil => rfl
      | cons _ _ => simp at h
    | cons a l ih =>
      intro m h
      cases m with
      | nil => simp at h
      | cons b m =>
        rw [List.map_cons, List.map_cons] at h
        injection h with h1 h2
        rw [inj a b h1, ih m h2]
  exact String.toList_inj.mp (h3 _ _ h2)
/-- fields by their names -/
inductive FdR (K : PySem.W.Frag) (ca : CaT) (F : Hp) (m : List Addr) : List (Str × V) → List (String × D) → Prop
  | nil : FdR K ca F m [] []
  | cons {f : String} {v : V} {d : D} {r : List (Str × V)} {s : List (String × D)} : Rep K ca F m v d → FdR K ca F m r s → FdR K ca F m ((fS f, v) :: r) ((f, d) :: s)
theorem FdR.mono {K : PySem.W.Frag} {ca : CaT} {F F' : Hp} {m m' : List Addr} (e : Ex F F') (p : Pre m m') : ∀ {l : List (Str × V)} {s : List (String × D)}, FdR K ca F m l s → FdR K ca F' m' l s
  | _, _, .nil => .nil
  | _, _, .cons h r => .cons (h.mono e p) (FdR.mono e p r)
theorem FdR.length {K : PySem.W.Frag} {ca : CaT} {F : Hp} {m : List Addr} : ∀ {l : List (Str × V)} {s : List (String × D)}, FdR K ca F m l s → l.length = s.length
  | _, _, .nil => rfl
  | _, _, .cons _ r => by rw [List.length_cons, List.length_cons, FdR.length r]
inductive NdR (K : PySem.W.Frag) (ca : CaT) (F : Hp) (m : List Addr) : List (NestedKey × Addr × V) → List (NestedKey × D) → Prop
  | nil : NdR K ca F m [] []
  | cons {k : NestedKey} {q : Addr} {v : V} {d : D} {r : List (NestedKey × Addr × V)} {s : List (NestedKey × D)} : Rep K ca F m v d → NdR K ca F m r s → NdR K ca F m ((k, q, v) :: r) ((k, d) :: s)
theorem NdR.mono {K : PySem.W.Frag} {ca : CaT} {F F' : Hp} {m m' : List Addr} (e : Ex F F') (p : Pre m m') : ∀ {l : List (NestedKey × Addr × V)} {s : List (NestedKey × D)}, NdR K ca F m l s → NdR K ca F' m' l s
  | _, _, .nil => .nil
  | _, _, .cons h r => .cons (h.mono e p) (NdR.mono e p r)
theorem NdR.length {K : PySem.W.Frag} {ca : CaT} {F : Hp} {m : List Addr} : ∀ {l : List (NestedKey × Addr × V)} {s : List (NestedKey × D)}, NdR K ca F m l s → l.length = s.length
  | _, _, .nil => rfl
  | _, _, .cons _ r => by rw [List.length_cons, List.length_cons, NdR.length r]
def ORep (K : PySem.W.Frag) (ca : CaT) (F : Hp) (m : List Addr) (H : Hp) (a : Addr) : O → Prop
  | .lst l => ∃ vs, H a = some (.lst vs) ∧ RepL K ca F m vs l
  | .dic false lk l => ∃ kvs, At H a lk (.dK kvs) ∧ KvR K ca F m kD kvs l
  | .dic true lk l => ∃ kvs, At H a lk (.dT kvs) ∧ KvR K ca F m kT kvs l
  | .obj C fs => ∃ dx kvs, H a = some (.ins (ca C) dx kvs) ∧ FdR K ca F m kvs fs
  | .nd l => ∃ kvs, H a = some (NdO a kvs) ∧ NdOk F a kvs ∧ NdR K ca F m kvs l
theorem At.mono {H H' : Hp} {a : Addr} {lk : Bool} {u : HO} (h : At H a lk u) (k : ∀ w, H a = some w → H' a = some w) : At H' a lk u := by
  cases lk with
  | false => exact k _ h
  | true => obtain ⟨od, h⟩ := h; exact ⟨od, k _ h⟩
section
variable {K : PySem.W.Frag} {ca : CaT} {F F' H H' : Hp} {m m' : List Addr} {a : Addr} {o : O}
theorem ORep.mono (h : ORep K ca F m H a o) (e : Ex F F') (p : Pre m m') (k : ∀ u, H a = some u → H' a = some u) : ORep K ca F' m' H' a o := by
  cases o with
  | lst l => obtain ⟨vs, x, r⟩ := h; exact ⟨vs, k _ x, r.mono e p⟩
  | dic t lk l =>
    cases t with
    | false => obtain ⟨kvs, x, r⟩ := h; exact ⟨kvs, x.mono k, r.mono e p⟩
    | true => obtain ⟨kvs, x, r⟩ := h; exact ⟨kvs, x.mono k, r.mono e p⟩
  | obj C fs => obtain ⟨dx, kvs, x, r⟩ := h; exact ⟨dx, kvs, k _ x, r.mono e p⟩
  | nd l => obtain ⟨kvs, x, ok, r⟩ := h; exact ⟨kvs, k _ x, ok.mono fun a xs z => e a _ z, r.mono e p⟩
theorem ORep.ordy (h : ORep K ca F m H a o) : ∃ u, H a = some u ∧ Ordy u := by
  cases o with
  | lst l => obtain ⟨vs, x, r⟩ := h; exact ⟨_, x, trivial⟩
  | dic t lk l =>
    cases t with
    | false =>
      obtain ⟨kvs, x, r⟩ := h
      cases lk with
      | false => exact ⟨_, x, trivial⟩
      | true => obtain ⟨od, x⟩ := x; exact ⟨_, x, trivial⟩
    | true =>
      obtain ⟨kvs, x, r⟩ := h
      cases lk with
      | false => exact ⟨_, x, trivial⟩
      | true => obtain ⟨od, x⟩ := x; exact ⟨_, x, trivial⟩
  | obj C fs => obtain ⟨dx, kvs, x, _⟩ := h; exact ⟨_, x, trivial⟩
  | nd l => obtain ⟨kvs, x, _⟩ := h; exact ⟨_, x, ndO_ordy⟩
theorem ORep.ho (h : ORep K ca F m H a o) : ∃ u, H a = some u := by
  cases o with
  | lst l => obtain ⟨vs, x, r⟩ := h; exact ⟨_, x⟩
  | dic t lk l =>
    cases t with
    | false =>
      obtain ⟨kvs, x, r⟩ := h
      cases lk with
      | false => exact ⟨_, x⟩
      | true => obtain ⟨od, x⟩ := x; exact ⟨_, x⟩
    | true =>
      obtain ⟨kvs, x, r⟩ := h
      cases lk with
      | false => exact ⟨_, x⟩
      | true => obtain ⟨od, x⟩ := x; exact ⟨_, x⟩
  | obj C fs => obtain ⟨dx, kvs, x, _⟩ := h; exact ⟨_, x⟩
  | nd l => obtain ⟨kvs, x, _⟩ := h; exact ⟨_, x⟩
end
/-- the plain heap A is the heap H: m tells where its objects stand, F what never changes -/
structure Rl (K : PySem.W.Frag) (ca : CaT) (F : Hp) (m : List Addr) (A : Hs) (H : Hp) : Prop where
  fh : Ex F H
  len : m.length = A.length
  nd : m.Nodup
  fr : ∀ a ∈ m, F a = none
  ob : ∀ (i : Nat) (o : O) (a : Addr), A[i]? = some o → m[i]? = some a → ORep K ca F m H a o
  tb : LamX.Tabs ca.T H
  ft : ∀ a ps, F a ≠ some (.tbl ps)
/-- what a step leaves -/
structure Stp (F : Hp) (m : List Addr) (H F' : Hp) (m' : List Addr) (H' : Hp) : Prop where
  ff : Ex F F'
  mm : Pre m m'
  kp : ∀ a u, H a = some u → a ∉ m → (∀ ps, u ≠ .tbl ps) → H' a = some u
  gn : ∀ a, F' a ≠ none → F a ≠ none ∨ Fr1 H a ∨ ∃ xs, F' a = some (.tup xs)
  gm : ∀ a, a ∈ m' → a ∈ m ∨ Fr1 H a
  th : ∀ a, Fr1 H' a → Fr1 H a
  fz : ∀ a o u, H a = some (.frz o u) → H' a = some (.frz o u)
structure Slt (K : PySem.W.Frag) (ca : CaT) (F : Hp) (m : List Addr) (σ : L2.St) (env : Sl) : Prop where
  len : σ.length = env.length
  val : ∀ (i : Nat) (d : D), env[i]? = some (some d) → ∃ v : V, σ[i]? = some (some v) ∧ Rep K ca F m v d
section
variable {K : PySem.W.Frag} {ca : CaT} {F F1 F2 H H1 H2 : Hp} {m m1 m2 : List Addr} {A : Hs} {σ : L2.St} {env : Sl} {p : Addr} {u : HO} {o : O} {d : D} {v : V} {i : Nat}
theorem Stp.refl : Stp F m H F m H := ⟨Ex.refl _, Pre.refl _, fun _ _ h _ _ => h, fun a h => .inl h, fun a h => .inl h, fun _ h => h, fun _ _ _ h => h⟩
theorem Stp.trans (x : Stp F m H F1 m1 H1) (y : Stp F1 m1 H1 F2 m2 H2) : Stp F m H F2 m2 H2 := by
  refine ⟨x.ff.trans y.ff, x.mm.trans y.mm, fun a u h n nt => ?_, fun a h => ?_, fun a h => ?_, fun a h => x.th a (y.th a h), fun a o u h => y.fz a o u (x.fz a o u h)⟩
  · refine y.kp a u (x.kp a u h n nt) (fun hm => ?_) nt
    rcases x.gm a hm with q | q
    · exact n q
    · obtain ⟨ps, z⟩ := q u h
      exact nt ps z
  · rcases y.gn a h with q | q | q
    · rcases x.gn a q with z | z | ⟨xs, z⟩
      · exact .inl z
      · exact .inr (.inl z)
      · exact .inr (.inr ⟨xs, y.ff a _ z⟩)
    · exact .inr (.inl (x.th a q))
    · exact .inr (.inr q)
  · rcases y.gm a h with q | q
    · exact x.gm a q
    · exact .inr (x.th a q)
theorem Slt.mono (S : Slt K ca F m σ env) (e : Ex F F1) (p : Pre m m1) : Slt K ca F1 m1 σ env := ⟨S.len, fun i d h => by
  obtain ⟨v, h1, h2⟩ := S.val i d h
  exact ⟨v, h1, h2.mono e p⟩⟩
theorem Slt.stp (S : Slt K ca F m σ env) (x : Stp F m H F1 m1 H1) : Slt K ca F1 m1 σ env := S.mono x.ff x.mm
theorem Slt.set (S : Slt K ca F m σ env) (r : Rep K ca F m v d) : Slt K ca F m (σ.set i (some v)) (env.set i (some d)) := ⟨by simp [S.len], fun j e h => by
  by_cases q : i = j
  · subst q
    rw [List.getElem?_set] at h ⊢
    have l := S.len
    split at h
    · split at h
      · cases h
        refine ⟨v, ?_, r⟩
        simp_all
      · cases h
    · rename_i z; exact absurd rfl z
  · rw [List.getElem?_set_ne q] at h ⊢
    exact S.val j e h⟩
theorem Slt.unset (S : Slt K ca F m σ env) : Slt K ca F m (σ.set i none) (env.set i none) := ⟨by simp [S.len], fun j e h => by
  by_cases q : i = j
  · subst q
    rw [List.getElem?_set] at h
    split at h
    · split at h <;> cases h
    · rename_i z; exact absurd rfl z
  · rw [List.getElem?_set_ne q] at h ⊢
    exact S.val j e h⟩
theorem Rl.ordy (R : Rl K ca F m A H) {a : Addr} (ha : m[i]? = some a) : ∃ u, H a = some u ∧ Ordy u := by
  have il : i < A.length := by rw [← R.len]; exact (List.getElem?_eq_some_iff.mp ha).1
  exact (R.ob i A[i] a (List.getElem?_eq_getElem il) ha).ordy
theorem Rl.ne (R : Rl K ca F m A H) {a : Addr} (h : a ∈ m) : H a ≠ none := by
  obtain ⟨i, hi⟩ := List.getElem?_of_mem h
  have l : i < A.length := by rw [← R.len]; exact (List.getElem?_eq_some_iff.mp hi).1
  obtain ⟨u, hu⟩ := (R.ob i A[i] a (by simp [l]) hi).ho
  rw [hu]; simp
theorem Rl.out (R : Rl K ca F m A H) {a : Addr} (h : H a = none) : a ∉ m := fun q => R.ne q h
/-- a new thing that stands -/
theorem Rl.new (R : Rl K ca F m A H) (n : H p = none) (hu : ∀ ps, u ≠ HO.tbl ps := by intro _ h; cases h) : Rl K ca (upd F p u) m A (upd H p u) ∧ Stp F m H (upd F p u) m (upd H p u) := by
  have nf := R.fh.back n
  refine ⟨⟨R.fh.both, R.len, R.nd, fun a h => ?_, fun i o a h1 h2 => (R.ob i o a h1 h2).mono (Ex.new nf) (Pre.refl _) fun w hw => Ex.new n a w hw, R.tb.ext fun b o h => Ex.new n b o h, fun a ps => ?_⟩, Ex.new nf, Pre.refl _, fun a w h _ _ => Ex.new n a w h, fun a h => ?_, fun a h => .inl h, fun a h => h.back fun u hu => Ex.new n a u hu, fun a o w h => Ex.new n a _ h⟩
  · rw [upd_ne (fun z => R.out n (by rw [← z]; exact h))]; exact R.fr a h
  · by_cases q : a = p
    · subst q; rw [upd_same]; exact fun z => hu ps (Option.some.inj z)
    · rw [upd_ne q]; exact R.ft a ps
  · by_cases q : a = p
    · subst q; exact .inr (.inl (.none n))
    · rw [upd_ne q] at h; exact .inl h
/-- a tuple that stands is known from now on -/
theorem Rl.catch {vs : List V} (R : Rl K ca F m A H) (h : H p = some (.tup vs)) : ∃ F1, Rl K ca F1 m A H ∧ Stp F m H F1 m H ∧ F1 p = some (.tup vs) := by
  have nm : p ∉ m := fun hm => by
    obtain ⟨i, hi⟩ := List.getElem?_of_mem hm
    have l : i < A.length := by rw [← R.len]; exact (List.getElem?_eq_some_iff.mp hi).1
    have r := R.ob i A[i] p (by simp [l]) hi
    cases q : A[i] with
    | lst l => rw [q] at r; obtain ⟨vs, x, _⟩ := r; rw [h] at x; cases x
    | obj C fs => rw [q] at r; obtain ⟨dx, kvs, x, _⟩ := r; rw [h] at x; cases x
    | nd l => rw [q] at r; obtain ⟨kvs, x, _⟩ := r; rw [h] at x; unfold NdO at x; cases x
    | dic t lk l =>
      rw [q] at r
      cases t with
      | false =>
        obtain ⟨kvs, x, _⟩ := r
        cases lk with
        | false => have x : H p = some (.dK kvs) := x; rw [h] at x; cases x
        | true => obtain ⟨od, x⟩ := x; rw [h] at x; cases x
      | true =>
        obtain ⟨kvs, x, _⟩ := r
        cases lk with
        | false => have x : H p = some (.dT kvs) := x; rw [h] at x; cases x
        | true => obtain ⟨od, x⟩ := x; rw [h] at x; cases x
  have e : Ex F (upd F p (.tup vs)) := fun a o ha => by
    by_cases q : a = p
    · subst q
      have := R.fh a o ha
      rw [h] at this
      cases this
      exact upd_same
    · rw [upd_ne q]; exact ha
  refine ⟨upd F p (.tup vs), ⟨fun a o ha => ?_, R.len, R.nd, fun a ha => ?_, fun i o a h1 h2 => (R.ob i o a h1 h2).mono e (Pre.refl _) fun w hw => hw, R.tb, fun a ps => ?_⟩, ⟨e, Pre.refl _, fun a w h _ _ => h, fun a ha => ?_, fun a h => .inl h, fun a h => h, fun a o w h => h⟩, upd_same⟩
  · by_cases q : a = p
    · subst q; rw [upd_same] at ha; cases ha; exact h
    · rw [upd_ne q] at ha; exact R.fh a o ha
  · rw [upd_ne (fun z => nm (by rw [← z]; exact ha))]; exact R.fr a ha
  · by_cases q : a = p
    · subst q; rw [upd_same]; intro z; cases z
    · rw [upd_ne q]; exact R.ft a ps
  · by_cases q : a = p
    · subst q; exact .inr (.inr ⟨vs, upd_same⟩)
    · rw [upd_ne q] at ha; exact .inl ha
/-- a new thing that nobody tracks -/
theorem Rl.newH (R : Rl K ca F m A H) (n : H p = none) : Rl K ca F m A (upd H p u) ∧ Stp F m H F m (upd H p u) := by
  refine ⟨⟨R.fh.trans (Ex.new n), R.len, R.nd, R.fr, fun i o a h1 h2 => (R.ob i o a h1 h2).mono (Ex.refl _) (Pre.refl _) fun w hw => Ex.new n a w hw, R.tb.ext fun b o h => Ex.new n b o h, R.ft⟩, Ex.refl _, Pre.refl _, fun a w h _ _ => Ex.new n a w h, fun a h => .inl h, fun a h => .inl h, fun a h => h.back fun u hu => Ex.new n a u hu, fun a o w h => Ex.new n a _ h⟩
/-- what is there is taken into the plain heap -/
theorem Rl.take (R : Rl K ca F m A H) (n : p ∉ m) (nf : F p = none) (r : ORep K ca F (m ++ [p]) H p o) : Rl K ca F (m ++ [p]) (A ++ [o]) H := by
  refine ⟨R.fh, by simp [R.len], ?_, fun a h => ?_, fun i o' a h1 h2 => ?_, R.tb, R.ft⟩
  · rw [List.nodup_append]
    refine ⟨R.nd, by simp, fun a h b hb e => ?_⟩
    rw [List.mem_singleton] at hb
    exact n (by rw [← hb, ← e]; exact h)
  · rcases List.mem_append.mp h with q | q
    · exact R.fr a q
    · rw [List.mem_singleton] at q; rw [q]; exact nf
  · by_cases q : i < A.length
    · rw [List.getElem?_append_left q] at h1
      rw [List.getElem?_append_left (by rw [R.len]; exact q)] at h2
      exact (R.ob i o' a h1 h2).mono (Ex.refl _) ⟨[p], rfl⟩ fun _ h => h
    · rw [List.getElem?_append_right (Nat.le_of_not_lt q)] at h1
      rw [List.getElem?_append_right (by rw [R.len]; exact Nat.le_of_not_lt q)] at h2
      rw [R.len] at h2
      have e : i - A.length = 0 := by
        have := (List.getElem?_eq_some_iff.mp h1).1
        simp at this; omega
      rw [e] at h1 h2
      cases h1; cases h2; exact r
/-- a new object of the plain heap -/
theorem Rl.alloc (R : Rl K ca F m A H) (n : H p = none) (r : ORep K ca F (m ++ [p]) (upd H p u) p o) : Rl K ca F (m ++ [p]) (A ++ [o]) (upd H p u) ∧ Stp F m H F (m ++ [p]) (upd H p u) ∧ Rep K ca F (m ++ [p]) (.ref p) (.ref A.length) := by
  obtain ⟨R1, g1⟩ := R.newH (u := u) n
  refine ⟨R1.take (R.out n) (R.fh.back n) r, ⟨Ex.refl _, ⟨[p], rfl⟩, g1.kp, g1.gn, fun a h => ?_, g1.th, g1.fz⟩, .ref (by rw [List.getElem?_append_right (by rw [R.len]; exact Nat.le_refl _), R.len]; simp)⟩
  rcases List.mem_append.mp h with q | q
  · exact .inl q
  · rw [List.mem_singleton] at q; exact .inr (by rw [q]; exact .none n)
/-- an object of the plain heap is another one now -/
theorem Rl.put {a : Addr} {o' : O} (R : Rl K ca F m A H) (ha : m[i]? = some a) (nz : ∀ od w, H a ≠ some (.frz od w)) (r : ORep K ca F m (upd H a u) a o') : Rl K ca F m (A.set i o') (upd H a u) ∧ Stp F m H F m (upd H a u) := by
  have hm : a ∈ m := List.mem_of_getElem? ha
  have fa := R.fr a hm
  obtain ⟨w0, e0, o0⟩ := R.ordy ha
  refine ⟨⟨R.fh.right fa, by simp [R.len], R.nd, R.fr, fun j o b h1 h2 => ?_, tabs_upd R.tb e0 o0, R.ft⟩, Ex.refl _, Pre.refl _, fun b w h n _ => ?_, fun a h => .inl h, fun a h => .inl h, fun b h => ?_, fun b od w h => ?_⟩
  · by_cases q : i = j
    · subst q
      rw [ha] at h2; cases h2
      rw [List.getElem?_set] at h1
      split at h1
      · split at h1
        · cases h1; exact r
        · cases h1
      · rename_i z; exact absurd rfl z
    · rw [List.getElem?_set_ne q] at h1
      have nb : b ≠ a := fun z => q (by
        subst z
        exact (List.getElem?_inj (List.getElem?_eq_some_iff.mp ha).1 R.nd).mp (ha.trans h2.symm))
      exact (R.ob j o b h1 h2).mono (Ex.refl _) (Pre.refl _) fun w hw => by rw [upd_ne nb]; exact hw
  · rw [upd_ne fun z => n (by rw [z]; exact hm)]; exact h
  · by_cases q : b = a
    · subst q
      obtain ⟨w1, e1, o1⟩ := r.ordy
      exact (h.no e1 o1).elim
    · exact h.back fun u hu => by rw [upd_ne q]; exact hu
  · rw [upd_ne fun z => nz od w (by rw [← z]; exact h)]; exact h
theorem Rl.at (R : Rl K ca F m A H) (hA : A[i]? = some o) (r : Rep K ca F m v (.ref i)) : ∃ a, v = .ref a ∧ m[i]? = some a ∧ ORep K ca F m H a o := by
  cases r with
  | ref h => exact ⟨_, rfl, h, R.ob i o _ hA h⟩

/-! ### simulations -/
/-- what is wanted behind it, told of the plain end -/
def Po {α β : Type} (K : PySem.W.Frag) (ca : CaT) (Rr : Hp → List Addr → β → α → Prop) (F : Hp) (m : List Addr) (H : Hp) (W : WX) (σ : L2.St) (Q : β → Hp → Prop) : RE α → Prop
  | .ok a A' => ∀ v F' m' H', Rl K ca F' m' A' H' → Stp F m H F' m' H' → Rr F' m' v a → Q v H'
  | .exc C A' => ∀ F' m' H', Rl K ca F' m' A' H' → Stp F m H F' m' H' → W (.ref (ca C)) none σ H'
  | .stuck => False
def Sim {α β : Type} (K : PySem.W.Frag) (ca : CaT) (Rr : Hp → List Addr → β → α → Prop) (W : WX) (te : L2.St → Hp → (β → Hp → Prop) → Prop) (f : Sl → Hs → RE α) : Prop :=
  ∀ F m A σ H env Q, Rl K ca F m A H → Slt K ca F m σ env → Po K ca Rr F m H W σ Q (f env A) → te σ H Q
def ReqI {α : Type} : Hp → List Addr → α → α → Prop := fun _ _ b c => b = c
abbrev SimE (K : PySem.W.Frag) (ca : CaT) (W : WX) (te : TE) (f : E) : Prop := Sim K ca (Rep K ca) W te f
abbrev SimT (K : PySem.W.Frag) (ca : CaT) (W : WX) (te : TT) (f : Tt) : Prop := Sim K ca ReqI W te f
abbrev SimA (K : PySem.W.Frag) (ca : CaT) (W : WX) (te : TA) (f : As) : Prop := Sim K ca (RepL K ca) W te f
abbrev SimO (K : PySem.W.Frag) (ca : CaT) (W : WX) (te : TO) (f : Sl → Hs → RE (Option Int)) : Prop := Sim K ca ReqI W te f
end
section
variable {K : PySem.W.Frag} {ca : CaT} {F F1 F2 H H1 H2 : Hp} {m m1 m2 : List Addr} {A : Hs} {σ : L2.St} {env : Sl} {W : WX}
theorem Po.stp {α β : Type} {Rr : Hp → List Addr → β → α → Prop} {Q : β → Hp → Prop} {r : RE α} (h : Po K ca Rr F m H W σ Q r) (g : Stp F m H F1 m1 H1) : Po K ca Rr F1 m1 H1 W σ Q r := by
  cases r with
  | ok a A' => exact fun v F' m' H' R g' q => h v F' m' H' R (g.trans g') q
  | exc C A' => exact fun F' m' H' R g' => h F' m' H' R (g.trans g')
  | stuck => exact h
theorem Po.imp {α β : Type} {Rr : Hp → List Addr → β → α → Prop} {Q Q' : β → Hp → Prop} {r : RE α} (h : Po K ca Rr F m H W σ Q r) (k : ∀ v H, Q v H → Q' v H) : Po K ca Rr F m H W σ Q' r := by
  cases r with
  | ok a A' => exact fun v F' m' H' R g' q => k _ _ (h v F' m' H' R g' q)
  | exc C A' => exact h
  | stuck => exact h
/-- first f, then g -/
theorem Sim.bind {α β γ δ : Type} {Rr : Hp → List Addr → β → α → Prop} {Rs : Hp → List Addr → δ → γ → Prop} {te : L2.St → Hp → (β → Hp → Prop) → Prop} {f : Sl → Hs → RE α} (h : Sim K ca Rr W te f) (R : Rl K ca F m A H) (S : Slt K ca F m σ env) {g : α → Hs → RE γ}
    {Q : δ → Hp → Prop} {T : β → Hp → Prop} (p : Po K ca Rs F m H W σ Q ((f env A).bind g))
    (k : ∀ F1 m1 A1 H1 x a, Rl K ca F1 m1 A1 H1 → Stp F m H F1 m1 H1 → Slt K ca F1 m1 σ env → Rr F1 m1 x a → Po K ca Rs F1 m1 H1 W σ Q (g a A1) → T x H1) : te σ H T := by
  refine h F m A σ H env T R S ?_
  cases q : f env A with
  | ok a A1 =>
    rw [q] at p
    exact fun v F1 m1 H1 R1 g1 r => k F1 m1 A1 H1 v a R1 g1 (S.stp g1) r (Po.stp p g1)
  | exc C A1 => rw [q] at p; exact p
  | stuck => rw [q] at p; exact p
/-! ### expressions -/
variable {ta tb tc te : TE} {a b c : E} {i : Nat} {d : D} {t u : TT} {ft fu : Tt} {ts : TA} {as : As}
theorem se_var : SimE K ca W (tVar i) (eVar i) := fun F m A σ H env Q R S p => by
  unfold eVar at p
  cases q : env[i]? with
  | none => rw [q] at p; exact p.elim
  | some z =>
    cases z with
    | none => rw [q] at p; exact p.elim
    | some d =>
      rw [q] at p
      obtain ⟨v, h1, h2⟩ := S.val i d q
      exact ⟨v, h1, p v F m H R Stp.refl h2⟩
theorem se_c {v : V} (h : ∀ F m, Rep K ca F m v d) : SimE K ca W (tC v) (eC d) := fun F m A σ H env Q R S p => p v F m H R Stp.refl (h F m)
theorem se_int {n : Int} : SimE K ca W (tC (.int n)) (eC (.int n)) := se_c fun _ _ => .int n
theorem se_bl {c : Bool} : SimE K ca W (tC (.bl c)) (eC (.bl c)) := se_c fun _ _ => .bl c
theorem se_non : SimE K ca W (tC .non) (eC .non) := se_c fun _ _ => .non
theorem se_ty {x : String} : SimE K ca W (tC (.ty x)) (eC (.ty x)) := se_c fun _ _ => .ty x
theorem se_nm {x : String} {a : Addr} (h : ca x = a) : SimE K ca W (tC (.ref a)) (eC (.nm x)) := se_c fun _ _ => h ▸ .nm x
/-- an operator: two operands' values, their data -/
def OpS (K : PySem.W.Frag) (ca : CaT) (r : R2) (o : D → D → Hs → RE D) : Prop := ∀ F m A H x y dx dy W σ Q, Rl K ca F m A H → Rep K ca F m x dx → Rep K ca F m y dy → Po K ca (Rep K ca) F m H W σ Q (o dx dy A) → r x y H Q
theorem se_op {r : R2} {o : D → D → Hs → RE D} (h : OpS K ca r o) (ha : SimE K ca W ta a) (hb : SimE K ca W tb b) : SimE K ca W (tOp r ta tb) (eOp o a b) := fun F m A σ H env Q R S p =>
  ha.bind R S p fun F1 m1 A1 H1 x dx R1 g1 S1 rx p1 => hb.bind R1 S1 p1 fun F2 m2 A2 H2 y dy R2 g2 S2 ry p2 => h F2 m2 A2 H2 x y dx dy W σ Q R2 (rx.mono g2.ff g2.mm) ry p2
def UnS (K : PySem.W.Frag) (ca : CaT) (r : V → Hp → VK → Prop) (o : D → Hs → RE D) : Prop := ∀ F m A H x dx W σ Q, Rl K ca F m A H → Rep K ca F m x dx → Po K ca (Rep K ca) F m H W σ Q (o dx A) → r x H Q
theorem se_un {r : V → Hp → VK → Prop} {o : D → Hs → RE D} (h : UnS K ca r o) (ha : SimE K ca W ta a) : SimE K ca W (tUn r ta) (eUn o a) := fun F m A σ H env Q R S p =>
  ha.bind R S p fun F1 m1 A1 H1 x dx R1 g1 S1 rx p1 => h F1 m1 A1 H1 x dx W σ Q R1 rx p1
theorem sa_nil : SimA K ca W tNil aNil := fun F m A σ H env Q R S p => p [] F m H R Stp.refl .nil
theorem sa_cons (ha : SimE K ca W ta a) (hs : SimA K ca W ts as) : SimA K ca W (tCons ta ts) (aCons a as) := fun F m A σ H env Q R S p =>
  ha.bind R S p fun F1 m1 A1 H1 x dx R1 g1 S1 rx p1 => hs.bind R1 S1 p1 fun F2 m2 A2 H2 xs ds R2 g2 S2 rs p2 => p2 (x :: xs) F2 m2 H2 R2 Stp.refl (.cons (rx.mono g2.ff g2.mm) rs)
def CbS (K : PySem.W.Frag) (ca : CaT) (r : List V → Hp → VK → Prop) (o : List D → Hs → RE D) : Prop := ∀ F m A H xs ds W σ Q, Rl K ca F m A H → RepL K ca F m xs ds → Po K ca (Rep K ca) F m H W σ Q (o ds A) → r xs H Q
theorem se_cb {r : List V → Hp → VK → Prop} {o : List D → Hs → RE D} (h : CbS K ca r o) (hs : SimA K ca W ts as) : SimE K ca W (tCB r ts) (eCB o as) := fun F m A σ H env Q R S p =>
  hs.bind R S p fun F1 m1 A1 H1 xs ds R1 g1 S1 rx p1 => h F1 m1 A1 H1 xs ds W σ Q R1 rx p1
theorem se_and (ha : SimE K ca W ta a) (hb : SimE K ca W tb b) : SimE K ca W (tAndV ta tb) (eAnd a b) := fun F m A σ H env Q R S p =>
  ha.bind R S p fun F1 m1 A1 H1 x dx R1 g1 S1 rx p1 => by
    cases rx with
    | bl c =>
      refine ⟨c, rfl, ?_⟩
      cases c with
      | true => exact hb F1 m1 A1 σ H1 env Q R1 S1 p1
      | false => exact p1 _ F1 m1 H1 R1 Stp.refl (.bl false)
    | _ => exact p1.elim
theorem se_not (ha : SimE K ca W ta a) : SimE K ca W (tNotV ta) (eNot a) := fun F m A σ H env Q R S p =>
  ha.bind R S p fun F1 m1 A1 H1 x dx R1 g1 S1 rx p1 => by
    cases rx with
    | bl c => exact ⟨c, rfl, p1 _ F1 m1 H1 R1 Stp.refl (.bl _)⟩
    | _ => exact p1.elim
theorem se_ch {q q' : R2} {o o' : D → D → Hs → RE D} (h : OpS K ca q o) (h' : OpS K ca q' o') (ha : SimE K ca W ta a) (hb : SimE K ca W tb b) (hc : SimE K ca W tc c) : SimE K ca W (tChain q q' ta tb tc) (eCh o o' a b c) := fun F m A σ H env Q R S p =>
  ha.bind R S p fun F1 m1 A1 H1 x dx R1 g1 S1 rx p1 => hb.bind R1 S1 p1 fun F2 m2 A2 H2 y dy R2 g2 S2 ry p2 => by
    refine h F2 m2 A2 H2 x y dx dy W σ _ R2 (rx.mono g2.ff g2.mm) ry ?_
    cases w : o dx dy A2 with
    | stuck => rw [w] at p2; exact p2
    | exc C A3 => rw [w] at p2; exact p2
    | ok z A3 =>
      rw [w] at p2
      intro v F3 m3 H3 R3 g3 rz
      have p3 := Po.stp p2 g3
      cases rz with
      | bl k =>
        refine ⟨k, rfl, ?_⟩
        cases k with
        | false => exact p3 _ F3 m3 H3 R3 Stp.refl (.bl false)
        | true => exact hc.bind R3 (S2.stp g3) p3 fun F4 m4 A4 H4 w dw R4 g4 S4 rw' p4 => h' F4 m4 A4 H4 y w dy dw W σ Q R4 (ry.mono (g3.ff.trans g4.ff) (g3.mm.trans g4.mm)) rw' p4
      | _ => exact p3.elim
theorem st_test (ha : SimE K ca W ta a) : SimT K ca W (tTest ta) (tOf a) := fun F m A σ H env Q R S p =>
  ha.bind R S p fun F1 m1 A1 H1 x dx R1 g1 S1 rx p1 => by
    cases rx with
    | bl c => exact ⟨c, rfl, p1 _ F1 m1 H1 R1 Stp.refl rfl⟩
    | _ => exact p1.elim
theorem st_b (ha : SimE K ca W ta a) : SimT K ca W (tB ta) (tOf a) := fun F m A σ H env Q R S p =>
  ha.bind R S p fun F1 m1 A1 H1 x dx R1 g1 S1 rx p1 => by
    cases rx with
    | bl c => exact ⟨c, rfl, p1 _ F1 m1 H1 R1 Stp.refl rfl⟩
    | _ => exact p1.elim
theorem st_not (ht : SimT K ca W t ft) : SimT K ca W (tNot t) (tNo ft) := fun F m A σ H env Q R S p =>
  ht.bind R S p fun F1 m1 A1 H1 x dx R1 g1 S1 rx p1 => by
    cases (show x = dx from rx)
    exact p1 _ F1 m1 H1 R1 Stp.refl rfl
theorem st_and (ht : SimT K ca W t ft) (hu : SimT K ca W u fu) : SimT K ca W (tAnd t u) (tAn ft fu) := fun F m A σ H env Q R S p =>
  ht.bind R S p fun F1 m1 A1 H1 x dx R1 g1 S1 rx p1 => by
    cases (show x = dx from rx)
    cases x with
    | true => exact hu F1 m1 A1 σ H1 env Q R1 S1 p1
    | false => exact p1 _ F1 m1 H1 R1 Stp.refl rfl
theorem st_or (ht : SimT K ca W t ft) (hu : SimT K ca W u fu) : SimT K ca W (tOr t u) (tOo ft fu) := fun F m A σ H env Q R S p =>
  ht.bind R S p fun F1 m1 A1 H1 x dx R1 g1 S1 rx p1 => by
    cases (show x = dx from rx)
    cases x with
    | false => exact hu F1 m1 A1 σ H1 env Q R1 S1 p1
    | true => exact p1 _ F1 m1 H1 R1 Stp.refl rfl
theorem st_yes : SimT K ca W tYes tYe := fun F m A σ H env Q R S p => p _ F m H R Stp.refl rfl
theorem se_if (ht : SimT K ca W t ft) (ha : SimE K ca W ta a) (hb : SimE K ca W tb b) : SimE K ca W (tIf t ta tb) (eIf ft a b) := fun F m A σ H env Q R S p =>
  ht.bind R S p fun F1 m1 A1 H1 x dx R1 g1 S1 rx p1 => by
    cases (show x = dx from rx)
    cases x with
    | true => exact ha F1 m1 A1 σ H1 env Q R1 S1 p1
    | false => exact hb F1 m1 A1 σ H1 env Q R1 S1 p1
theorem se_tup (hs : SimA K ca W ts as) : SimE K ca W (tTup ts) (eTup as) := fun F m A σ H env Q R S p =>
  hs.bind R S p fun F1 m1 A1 H1 xs ds R1 g1 S1 rs p1 => by
    split at p1
    · rename_i hl
      refine ⟨by rw [rs.length]; exact hl, fun q hq => ?_⟩
      obtain ⟨R2, g2⟩ := R1.new (u := .tup xs) hq
      exact p1 _ _ _ _ R2 g2 (.tup upd_same (rs.mono g2.ff g2.mm))
    · exact p1.elim
theorem po_alloc {Q : VK} {p : Addr} {u : HO} {o : O} (R : Rl K ca F m A H) (n : H p = none) (r : ORep K ca F (m ++ [p]) (upd H p u) p o) (h : Po K ca (Rep K ca) F m H W σ Q (alloc A o)) : Q (.ref p) (upd H p u) := by
  obtain ⟨R2, g2, q⟩ := R.alloc n r
  exact h _ _ _ _ R2 g2 q
theorem se_lst (hs : SimA K ca W ts as) : SimE K ca W (tLst ts) (eLst as) := fun F m A σ H env Q R S p =>
  hs.bind R S p fun F1 m1 A1 H1 xs ds R1 g1 S1 rs p1 => by
    split at p1
    · rename_i hl
      exact ⟨by rw [rs.length]; exact hl, fun q hq => po_alloc (o := .lst ds) R1 hq ⟨xs, upd_same, rs.mono (Ex.refl _) ⟨_, rfl⟩⟩ p1⟩
    · exact p1.elim
theorem se_dnewK : SimE K ca W tDNewK (eDNew false) := fun F m A σ H env Q R S p q hq => po_alloc (o := .dic false false []) R hq ⟨[], upd_same, .nil⟩ p
theorem so_none : SimO K ca W tNoPart oNo := fun F m A σ H env Q R S p => p _ F m H R Stp.refl rfl
theorem so_some (ha : SimE K ca W ta a) : SimO K ca W (tPart ta) (oSo a) := fun F m A σ H env Q R S p =>
  ha.bind R S p fun F1 m1 A1 H1 x dx R1 g1 S1 rx p1 => by
    cases rx with
    | int i => exact ⟨i, rfl, p1 _ F1 m1 H1 R1 Stp.refl rfl⟩
    | _ => exact p1.elim
def SlS (K : PySem.W.Frag) (ca : CaT) (r : V → Option Int → Option Int → Hp → VK → Prop) (o : D → Option Int → Option Int → Hs → RE D) : Prop := ∀ F m A H x dx lo hi W σ Q, Rl K ca F m A H → Rep K ca F m x dx → Po K ca (Rep K ca) F m H W σ Q (o dx lo hi A) → r x lo hi H Q
theorem se_sl {r : V → Option Int → Option Int → Hp → VK → Prop} {o : D → Option Int → Option Int → Hs → RE D} {tl th : TO} {fl fh : Sl → Hs → RE (Option Int)} (h : SlS K ca r o) (ha : SimE K ca W ta a) (hl : SimO K ca W tl fl) (hh : SimO K ca W th fh) : SimE K ca W (tSl r ta tl th) (eSl o a fl fh) := fun F m A σ H env Q R S p =>
  ha.bind R S p fun F1 m1 A1 H1 x dx R1 g1 S1 rx p1 => hl.bind R1 S1 p1 fun F2 m2 A2 H2 lo lo' R2 g2 S2 rl p2 => hh.bind R2 S2 p2 fun F3 m3 A3 H3 hi hi' R3 g3 S3 rh p3 => by
    cases (show lo = lo' from rl)
    cases (show hi = hi' from rh)
    exact h F3 m3 A3 H3 x dx lo hi W σ Q R3 (rx.mono (g2.ff.trans g3.ff) (g2.mm.trans g3.mm)) p3

/-! ### promises -/
def PoF (K : PySem.W.Frag) (ca : CaT) (F : Hp) (m : List Addr) (H : Hp) (Q : VK) (E : XK) : RE D → Prop
  | .ok a A' => ∀ v F' m' H', Rl K ca F' m' A' H' → Stp F m H F' m' H' → Rep K ca F' m' v a → Q v H'
  | .exc C A' => ∀ F' m' H', Rl K ca F' m' A' H' → Stp F m H F' m' H' → E (.ref (ca C)) none H'
  | .stuck => False
/-- THE PROMISE: it does what the plain function does -/
def SpF (K : PySem.W.Frag) (ca : CaT) (f : Fn) : Sp := fun vs H Q E => ∃ F m A ds, Rl K ca F m A H ∧ RepL K ca F m vs ds ∧ PoF K ca F m H Q E (f ds A)
theorem pof_po {Q : VK} {r : RE D} (h : Po K ca (Rep K ca) F m H W σ Q r) : PoF K ca F m H Q (WE W σ) r := by
  cases r <;> exact h
theorem pof_noX {Q : VK} {X : XK} {r : RE D} (h : Po K ca (Rep K ca) F m H W σ Q r.noX) : PoF K ca F m H Q X r := by
  cases r with
  | ok a A => exact h
  | exc C A => exact h.elim
  | stuck => exact h.elim
theorem se_call {f : Fn} (hs : SimA K ca W ts as) : SimE K ca W (tCallS (SpF K ca f) (WE W) ts) (eCall f as) := fun F m A σ H env Q R S p =>
  hs.bind R S p fun F1 m1 A1 H1 xs ds R1 g1 S1 rs p1 => ⟨F1, m1, A1, ds, R1, rs, pof_po p1⟩
theorem se_call0 {f : Fn} {X : XK} (hs : SimA K ca W ts as) : SimE K ca W (tCall (SpF K ca f) [] X ts) (eCall0 f as) := fun F m A σ H env Q R S p =>
  hs.bind R S p fun F1 m1 A1 H1 xs ds R1 g1 S1 rs p1 => ⟨F1, m1, A1, ds, R1, by rw [List.append_nil]; exact rs, pof_noX p1⟩

/-! ### fields -/
end
end SM

/-! ## methods that may raise -/
namespace L2
open PySem PySem.Spec PyProof.Rows
section
variable {X : Cx} {CX : CXT} {k : Nat} {f C : Addr} {fd : FuncData} {ps : List Str} {sp : Sp} {E : St → XK} {x m : Str} {p pos apos : Pos} {e o : Expr} {es : List Expr} {ta : TE} {t : TA}
theorem PE.or {X : Cx} {e : Expr} {t u : TE} (h1 : PE X e t) (h2 : PE X e u) : PE X e (fun σ H Q => t σ H Q ∨ u σ H Q) := ⟨fun pins s σ H Q I h => by
  rcases h with h | h
  · exact h1.run pins s σ H Q I h
  · exact h2.run pins s σ H Q I h⟩
theorem PS.or {X : Cx} {st : Stmt} {t u : TS} (h1 : PS X st t) (h2 : PS X st u) : PS X st (fun D σ H => t D σ H ∨ u D σ H) := ⟨fun pins s σ H D I h => by
  rcases h with h | h
  · exact h1.run pins s σ H D I h
  · exact h2.run pins s σ H D I h⟩
end
end L2
/-! ## fields, calls, statements -/
namespace SM
open PySem L2
open DL (Ex ExK tRaise tTry tTryO)
section
variable {K : PySem.W.Frag} {ca : CaT} {F F1 F2 H H1 H2 : Hp} {m m1 m2 : List Addr} {A A1 A2 : Hs} {σ : L2.St} {env : Sl} {W : WX}
variable {ta tb tc te : TE} {a b c : E} {i : Nat} {d : D} {t u : TT} {ft fu : Tt} {ts : TA} {as : As} {x : V} {dx : D} {C : String} {fs : List (String × D)} {cs : List String}
/-! ### statements -/
def PoS (K : PySem.W.Frag) (ca : CaT) (F : Hp) (m : List Addr) (H : Hp) (W : WX) (Dn : Ends) : RS → Prop
  | .nx e A' => ∀ F' m' σ' H', Rl K ca F' m' A' H' → Stp F m H F' m' H' → Slt K ca F' m' σ' e → Dn.nx σ' H'
  | .bk e A' => ∀ F' m' σ' H', Rl K ca F' m' A' H' → Stp F m H F' m' H' → Slt K ca F' m' σ' e → Dn.bk σ' H'
  | .ct e A' => ∀ F' m' σ' H', Rl K ca F' m' A' H' → Stp F m H F' m' H' → Slt K ca F' m' σ' e → Dn.ct σ' H'
  | .rt d A' => ∀ v F' m' H', Rl K ca F' m' A' H' → Stp F m H F' m' H' → Rep K ca F' m' v d → Dn.rt v H'
  | .exc C e A' => ∀ F' m' σ' H', Rl K ca F' m' A' H' → Stp F m H F' m' H' → Slt K ca F' m' σ' e → W (.ref (ca C)) none σ' H'
  | .stuck => False
def SimS (K : PySem.W.Frag) (ca : CaT) (W : WX) (t : TS) (f : S) : Prop := ∀ F m A σ H env Dn, Rl K ca F m A H → Slt K ca F m σ env → PoS K ca F m H W Dn (f env A) → t Dn σ H
variable {s1 s2 s : TS} {f1 f2 f : S} {Dn : Ends}
theorem PoS.stp {r : RS} (h : PoS K ca F m H W Dn r) (g : Stp F m H F1 m1 H1) : PoS K ca F1 m1 H1 W Dn r := by
  cases r with
  | nx e A' => exact fun F' m' σ' H' R g' q => h F' m' σ' H' R (g.trans g') q
  | bk e A' => exact fun F' m' σ' H' R g' q => h F' m' σ' H' R (g.trans g') q
  | ct e A' => exact fun F' m' σ' H' R g' q => h F' m' σ' H' R (g.trans g') q
  | rt d A' => exact fun v F' m' H' R g' q => h v F' m' H' R (g.trans g') q
  | exc C e A' => exact fun F' m' σ' H' R g' q => h F' m' σ' H' R (g.trans g') q
  | stuck => exact h
/-- the value of an expression, then a statement's rest -/
theorem ofE_bind {k : D → Hs → RS} {T : VK} (h : SimE K ca W te a) (R : Rl K ca F m A H) (S : Slt K ca F m σ env) (p : PoS K ca F m H W Dn (ofE env (a env A) k))
    (kk : ∀ F1 m1 A1 H1 x d, Rl K ca F1 m1 A1 H1 → Stp F m H F1 m1 H1 → Slt K ca F1 m1 σ env → Rep K ca F1 m1 x d → PoS K ca F1 m1 H1 W Dn (k d A1) → T x H1) : te σ H T := by
  refine h F m A σ H env T R S ?_
  cases q : a env A with
  | ok d A1 =>
    rw [q] at p
    exact fun v F1 m1 H1 R1 g1 r => kk F1 m1 A1 H1 v d R1 g1 (S.stp g1) r (PoS.stp p g1)
  | exc C A1 => rw [q] at p; exact fun F1 m1 H1 R1 g1 => p F1 m1 σ H1 R1 g1 (S.stp g1)
  | stuck => rw [q] at p; exact p
theorem ofT_bind {k : Bool → Hs → RS} {T : Bool → Hp → Prop} (h : SimT K ca W t ft) (R : Rl K ca F m A H) (S : Slt K ca F m σ env) (p : PoS K ca F m H W Dn (ofT env (ft env A) k))
    (kk : ∀ F1 m1 A1 H1 c, Rl K ca F1 m1 A1 H1 → Stp F m H F1 m1 H1 → Slt K ca F1 m1 σ env → PoS K ca F1 m1 H1 W Dn (k c A1) → T c H1) : t σ H T := by
  refine h F m A σ H env T R S ?_
  cases q : ft env A with
  | ok d A1 =>
    rw [q] at p
    intro v F1 m1 H1 R1 g1 r
    cases (show v = d from r)
    exact kk F1 m1 A1 H1 d R1 g1 (S.stp g1) (PoS.stp p g1)
  | exc C A1 => rw [q] at p; exact fun F1 m1 H1 R1 g1 => p F1 m1 σ H1 R1 g1 (S.stp g1)
  | stuck => rw [q] at p; exact p
theorem ss_seq (h1 : SimS K ca W s1 f1) (h2 : SimS K ca W s2 f2) : SimS K ca W (tSeq s1 s2) (sSeq f1 f2) := fun F m A σ H env Dn R S p => by
  refine h1 F m A σ H env { Dn with nx := s2 Dn } R S ?_
  unfold sSeq at p
  cases q : f1 env A with
  | nx e A1 =>
    rw [q] at p
    exact fun F' m' σ' H' R' g' S' => h2 F' m' A1 σ' H' e Dn R' S' (PoS.stp p g')
  | bk e A1 => rw [q] at p; exact p
  | ct e A1 => rw [q] at p; exact p
  | rt d A1 => rw [q] at p; exact p
  | exc C e A1 => rw [q] at p; exact p
  | stuck => rw [q] at p; exact p
theorem ss_next : SimS K ca W tNext sNx := fun F m A σ H env Dn R S p => p F m σ H R Stp.refl S
theorem ss_drop (h : SimE K ca W te a) : SimS K ca W (tDrop te) (sDrop a) := fun F m A σ H env Dn R S p => ofE_bind h R S p fun F1 m1 A1 H1 x d R1 g1 S1 rx p1 => p1 F1 m1 σ H1 R1 Stp.refl S1
theorem ss_ret (h : SimE K ca W te a) : SimS K ca W (tRet te) (sRet a) := fun F m A σ H env Dn R S p => ofE_bind h R S p fun F1 m1 A1 H1 x d R1 g1 S1 rx p1 => p1 x F1 m1 H1 R1 Stp.refl rx
theorem ss_if (ht : SimT K ca W t ft) (h1 : SimS K ca W s1 f1) (h2 : SimS K ca W s2 f2) : SimS K ca W (tIfS t s1 s2) (sIf ft f1 f2) := fun F m A σ H env Dn R S p => ofT_bind ht R S p fun F1 m1 A1 H1 c R1 g1 S1 p1 => by
  cases c with
  | true => exact h1 F1 m1 A1 σ H1 env Dn R1 S1 p1
  | false => exact h2 F1 m1 A1 σ H1 env Dn R1 S1 p1
theorem ss_set (h : SimE K ca W te a) : SimS K ca W (tAsg te (gName i)) (sSet i a) := fun F m A σ H env Dn R S p => ofE_bind h R S p fun F1 m1 A1 H1 x d R1 g1 S1 rx p1 => p1 F1 m1 _ H1 R1 Stp.refl (S1.set rx)
/-- targets: slots js alone change -/
def SimG (K : PySem.W.Frag) (ca : CaT) (g : TG) (f : G) (js : List Nat) : Prop := ∀ F m A σ H env v d env', Rl K ca F m A H → Slt K ca F m σ env → Rep K ca F m v d → f d env A = some env' → ∀ Q : L2.St → Hp → Prop,
  (∀ σ', Slt K ca F m σ' env' → σ'.length = σ.length → (∀ i : Nat, i ∉ js → σ'[i]? = σ[i]?) → Q σ' H) → g v σ H Q
def SimGs (K : PySem.W.Frag) (ca : CaT) (g : TGs) (f : List G) (js : List Nat) : Prop := ∀ F m A σ H env vs ds env', Rl K ca F m A H → Slt K ca F m σ env → RepL K ca F m vs ds → gAll f ds env A = some env' → ∀ Q : L2.St → Hp → Prop,
  (∀ σ', Slt K ca F m σ' env' → σ'.length = σ.length → (∀ i : Nat, i ∉ js → σ'[i]? = σ[i]?) → Q σ' H) → g vs σ H Q
theorem sg_name : SimG K ca (gName i) (gN i) [i] := fun F m A σ H env v d env' R S r h Q k => by
  cases h
  exact k _ (S.set r) (by simp) fun j hj => by rw [List.getElem?_set_ne (by intro z; exact hj (by simp [z]))]
theorem sgs_nil : SimGs K ca gNil [] [] := fun F m A σ H env vs ds env' R S r h Q k => by
  cases r with
  | nil => cases h; exact ⟨rfl, k σ S rfl fun _ _ => rfl⟩
  | cons _ _ => cases h
theorem sgs_cons {g : TG} {gs : TGs} {f : G} {fs : List G} {js ks : List Nat} (h : SimG K ca g f js) (hs : SimGs K ca gs fs ks) : SimGs K ca (gCons g gs) (f :: fs) (js ++ ks) := fun F m A σ H env vs ds env' R S r e Q k => by
  cases r with
  | nil => cases e
  | cons r1 r2 =>
    rename_i v vs d ds
    unfold gAll at e
    cases q : f d env A with
    | none => rw [q] at e; cases e
    | some env1 =>
      rw [q] at e
      refine ⟨v, vs, rfl, h F m A σ H env v d env1 R S r1 q _ fun σ1 S1 l1 k1 => hs F m A σ1 H env1 vs ds env' R S1 r2 e Q fun σ2 S2 l2 k2 => k σ2 S2 (l2.trans l1) fun i hi => ?_⟩
      rw [k2 i (fun z => hi (List.mem_append_right _ z)), k1 i (fun z => hi (List.mem_append_left _ z))]
theorem gAll_len : ∀ {fs : List G} {ds : List D} {env env' : Sl} {A : Hs}, gAll fs ds env A = some env' → ds.length = fs.length
  | [], [], _, _, _, _ => rfl
  | g :: gs, d :: ds, env, env', A, h => by
    unfold gAll at h
    cases q : g d env A with
    | none => rw [q] at h; cases h
    | some e => rw [q] at h; rw [List.length_cons, List.length_cons, gAll_len h]
  | [], _ :: _, _, _, _, h => by cases h
  | _ :: _, [], _, _, _, h => by cases h
theorem sg_tup {gs : TGs} {fs : List G} {js : List Nat} {n : Nat} (h : SimGs K ca gs fs js) (hn : fs.length = n) : SimG K ca (gTup K n gs) (gT fs) js := fun F m A σ H env v d env' R S r e Q k => by
  cases r with
  | tup s p =>
    have e' : gAll fs _ env A = some env' := e
    exact ⟨_, _, rfl, .inl (.inl (R.fh _ _ s)), by rw [p.length, gAll_len e', hn], h F m A σ H env _ _ env' R S p e' Q k⟩
  | _ => cases e
theorem ss_asg {g : TG} {gf : G} {js : List Nat} (h : SimE K ca W te a) (hg : SimG K ca g gf js) : SimS K ca W (tAsg te g) (sAsg a gf) := fun F m A σ H env Dn R S p => ofE_bind h R S p fun F1 m1 A1 H1 x d R1 g1 S1 rx p1 => by
  cases q : gf d env A1 with
  | none => simp only [q] at p1; exact p1.elim
  | some env' =>
    simp only [q] at p1
    exact hg F1 m1 A1 σ H1 env x d env' R1 S1 rx q _ fun σ' S' _ _ => p1 F1 m1 σ' H1 R1 Stp.refl S'
/-- x op= e -/
def IpS (K : PySem.W.Frag) (ca : CaT) (r : TIp) (o : D → D → Hs → RE D) : Prop := ∀ F m A H x y dx dy W σ Q, Rl K ca F m A H → Rep K ca F m x dx → Rep K ca F m y dy → Po K ca (Rep K ca) F m H W σ Q (o dx dy A) → r x y H Q
theorem po_ofE {k : D → Hs → RS} {T : VK} {r : RE D} (S : Slt K ca F m σ env) (p : PoS K ca F m H W Dn (ofE env r k)) (kk : ∀ F1 m1 A1 H1 x d, Rl K ca F1 m1 A1 H1 → Stp F m H F1 m1 H1 → Slt K ca F1 m1 σ env → Rep K ca F1 m1 x d → PoS K ca F1 m1 H1 W Dn (k d A1) → T x H1) : Po K ca (Rep K ca) F m H W σ T r := by
  cases r with
  | ok d A1 => exact fun v F1 m1 H1 R1 g1 r => kk F1 m1 A1 H1 v d R1 g1 (S.stp g1) r (PoS.stp p g1)
  | exc C A1 => exact fun F1 m1 H1 R1 g1 => p F1 m1 σ H1 R1 g1 (S.stp g1)
  | stuck => exact p
theorem ss_raise {C : String} {Ca : Addr} (h : ca C = Ca) : SimS K ca W (tRaise W Ca) (sRaise C) := fun F m A σ H env Dn R S p => by
  subst h; exact p F m σ H R Stp.refl S
theorem ss_tryK {cts : List String} {c : Value} {i j : Nat} {tb : WX → TS} (hc : AllC (fun C => PySem.W.exmOne K (.ref (ca C)) c = some true) cts) (h : ∀ W', SimS K ca W' (tb W') f) : SimS K ca W (tTry K c i j tb) (sTryK cts i j f) := fun F m A σ H env Dn R S p => by
  refine h (wKeep K c i j Dn) F m A σ H env Dn R S ?_
  unfold sTryK at p
  cases q : f env A with
  | exc C e1 A1 =>
    rw [q] at p
    simp only at p
    split at p
    · rename_i hC
      intro F' m' σ' H' R' g' S'
      refine ⟨ca C, rfl, rfl, AllC.of hc hC, fun a na => ?_⟩
      obtain ⟨R2, g2⟩ := R'.new (u := ExK (ca C) a) na (fun ps z => by unfold ExK at z; cases z)
      have rep : Rep K ca (upd F' a (ExK (ca C) a)) m' (.ref a) (.exc C) := .exc upd_same
      exact p _ _ _ _ R2 (g'.trans g2) ((((S'.stp g2).set (i := i) rep).set (i := j) rep).unset)
    · exact p.elim
  | nx e A1 => rw [q] at p; exact p
  | bk e A1 => rw [q] at p; exact p
  | ct e A1 => rw [q] at p; exact p
  | rt d A1 => rw [q] at p; exact p
  | stuck => rw [q] at p; exact p
/-! ### loops -/
/-- what is walked -/
def PoW (K : PySem.W.Frag) (ca : CaT) (F : Hp) (m : List Addr) (H : Hp) (W : WX) (σ : L2.St) (R : It → Hp → Prop) : RE Wk → Prop
  | .ok k A' => ∀ J F' m' H', Rl K ca F' m' A' H' → Stp F m H F' m' H' → (∃ (G : Hp → Prop) (Y : Nat → Hp → V → Hp → Prop), Walk J k.ds.length G Y ∧
      (∀ F2 m2 A2 H2, k.gd A2 → Rl K ca F2 m2 A2 H2 → Stp F' m' H' F2 m2 H2 → G H2) ∧
      ∀ i d x F2 m2 A2 H2 H3, k.ds[i]? = some d → k.gd A2 → Rl K ca F2 m2 A2 H2 → Stp F' m' H' F2 m2 H2 → Y i H2 x H3 → (H3 = H2 ∧ Rep K ca F2 m2 x d) ∨ (∃ T vs l, d = .tup l ∧ x = .ref T ∧ H2 T = none ∧ H3 = upd H2 T (.tup vs) ∧ RepL K ca F2 m2 vs l) ∨ (∃ T vs l, d = .tup l ∧ x = .ref T ∧ H2 T = some (.tup vs) ∧ H3 = H2 ∧ RepL K ca F2 m2 vs l) ∨ (∃ F3, Rl K ca F3 m2 A2 H3 ∧ Stp F2 m2 H2 F3 m2 H3 ∧ Rep K ca F3 m2 x d)) → R J H'
  | .exc C A' => ∀ F' m' H', Rl K ca F' m' A' H' → Stp F m H F' m' H' → W (.ref (ca C)) none σ H'
  | .stuck => False
def SimI (K : PySem.W.Frag) (ca : CaT) (W : WX) (wi : TI) (f : Sl → Hs → RE Wk) : Prop := ∀ F m A σ H env R, Rl K ca F m A H → Slt K ca F m σ env → PoW K ca F m H W σ R (f env A) → wi σ H R
theorem ss_for {wi : TI} {w : Sl → Hs → RE Wk} {g : TG} {gf : G} {js : List Nat} (hi : SimI K ca W wi w) (hg : SimG K ca g gf js) (h : SimS K ca W s f) : SimS K ca W (tFor wi g s) (sFor w gf f) := fun F m A σ H env Dn R S p => by
  refine hi F m A σ H env _ R S ?_
  unfold sFor at p
  cases q : w env A with
  | stuck => rw [q] at p; exact p
  | exc C A1 => rw [q] at p; exact fun F1 m1 H1 R1 g1 => p F1 m1 σ H1 R1 g1 (S.stp g1)
  | ok k A1 =>
    rw [q] at p
    rintro J F1 m1 H1 R1 g1 ⟨G, Y, wk, hG, hY⟩
    refine for_it wk (fun i σ' H' => ∃ F' m' A' env', Rl K ca F' m' A' H' ∧ Slt K ca F' m' σ' env' ∧ Stp F1 m1 H1 F' m' H' ∧ PoS K ca F' m' H' W Dn (forL gf f k.gd (k.ds.drop i) env' A')) ⟨F1, m1, A1, env, R1, S.stp g1, Stp.refl, PoS.stp p g1⟩ ?_ ?_ ?_
    · rintro i σ' H' hi ⟨F', m', A', env', R', S', g', p'⟩
      refine hG F' m' A' H' ?_ R' g'
      cases z : k.ds.drop i with
      | nil => rw [z] at p'; unfold forL at p'; split at p'; assumption; exact p'.elim
      | cons d ds => rw [z] at p'; unfold forL at p'; split at p'; assumption; exact p'.elim
    · rintro i x σ2 H2 H3 hlt ⟨F2, m2, A2, env2, R2, S2, g2, p2⟩ y
      rw [List.drop_eq_getElem_cons hlt] at p2
      have gd2 : k.gd A2 := by
        by_cases z : k.gd A2
        · exact z
        · unfold forL at p2; rw [if_neg z] at p2; exact p2.elim
      have st3 : ∃ F3, Rl K ca F3 m2 A2 H3 ∧ Stp F2 m2 H2 F3 m2 H3 ∧ Rep K ca F3 m2 x k.ds[i] := by
        rcases hY i k.ds[i] x F2 m2 A2 H2 H3 (by simp [hlt]) gd2 R2 g2 y with ⟨e, rp⟩ | ⟨T, vs, l, q1, q2, q3, q4, q5⟩ | ⟨T, vs, l, q1, q2, q3, q4, q5⟩ | w3
        · subst e; exact ⟨F2, R2, Stp.refl, rp⟩
        · subst q4
          rw [q1, q2]
          obtain ⟨R3, g3⟩ := R2.new (u := .tup vs) q3
          exact ⟨_, R3, g3, .tup upd_same (q5.mono g3.ff g3.mm)⟩
        · subst q4
          rw [q1, q2]
          obtain ⟨F3, R3, g3, hT⟩ := R2.catch q3
          exact ⟨F3, R3, g3, .tup hT (q5.mono g3.ff g3.mm)⟩
        · exact w3
      obtain ⟨F3, R3, g3, rp⟩ := st3
      have p3 := PoS.stp p2 g3
      unfold forL at p3
      rw [if_pos gd2] at p3
      cases z : gf k.ds[i] env2 A2 with
      | none => rw [z] at p3; exact p3.elim
      | some env3 =>
        rw [z] at p3
        refine hg F3 m2 A2 σ2 H3 env2 x k.ds[i] env3 R3 (S2.stp g3) rp z _ fun σ3 S3 _ _ => ?_
        refine h F3 m2 A2 σ3 H3 env3 _ R3 S3 ?_
        cases y : f env3 A2 with
        | nx e A4 => simp only [y] at p3; exact fun F4 m4 σ4 H4 R4 g4 S4 => ⟨F4, m4, A4, e, R4, S4, (g2.trans g3).trans g4, PoS.stp p3 g4⟩
        | ct e A4 => simp only [y] at p3; exact fun F4 m4 σ4 H4 R4 g4 S4 => ⟨F4, m4, A4, e, R4, S4, (g2.trans g3).trans g4, PoS.stp p3 g4⟩
        | bk e A4 => simp only [y] at p3; exact p3
        | rt d A4 => simp only [y] at p3; exact p3
        | exc C e A4 => simp only [y] at p3; exact p3
        | stuck => simp only [y] at p3; exact p3
    · rintro σ' H' ⟨F', m', A', env', R', S', g', p'⟩
      rw [List.drop_length] at p'
      unfold forL at p'
      split at p'
      · exact p' F' m' σ' H' R' Stp.refl S'
      · exact p'.elim
end
end SM

/-! ## comprehensions, new instances, methods, defs -/
namespace SM
open PySem L2
open DL (Ex ExK)
section
variable {K : PySem.W.Frag} {ca : CaT} {F F1 F2 H H1 H2 : Hp} {m m1 m2 : List Addr} {A A1 A2 : Hs} {σ : L2.St} {env : Sl} {W : WX}
variable {ta tb tc te : TE} {a b c : E} {i : Nat} {d : D} {t u : TT} {ft fu : Tt} {ts : TA} {as : As} {x : V} {dx : D} {C : String} {fs : List (String × D)} {cs : List String}
theorem Slt.wiped (S : Slt K ca F m σ env) : ∀ vs : List Nat, Slt K ca F m (L2.wipe σ vs) (wipeS env vs)
  | [] => S
  | v :: vs => (Slt.wiped S vs).unset
theorem wipe_same {σ : L2.St} {σ2 : L2.St} {vs js : List Nat} (hj : ∀ j ∈ js, j ∈ vs) (l4 : σ2.length = (L2.wipe σ vs).length) (q4 : ∀ i : Nat, i ∉ js → σ2[i]? = (L2.wipe σ vs)[i]?) : L2.wipe σ2 vs = L2.wipe σ vs := by
  have len : ∀ (a : L2.St) (us : List Nat), (L2.wipe a us).length = a.length := fun a us => wipe_length a us
  have inn : ∀ (a : L2.St) (us : List Nat) (n : Nat), n ∈ us → n < a.length → (L2.wipe a us)[n]? = some none := fun a us => by
    induction us with
    | nil => intro n h _; simp at h
    | cons v us ih =>
      intro n h hl
      unfold L2.wipe
      by_cases z : v = n
      · subst z; rw [List.getElem?_set_self (by rw [len]; exact hl)]
      · rw [List.getElem?_set_ne z]
        exact ih n (by simp only [List.mem_cons] at h; rcases h with h | h; exact absurd h.symm z; exact h) hl
  apply List.ext_getElem?
  intro n
  by_cases z : n ∈ vs
  · by_cases hl : n < σ.length
    · rw [inn σ2 vs n z (by rw [l4, len]; exact hl), inn σ vs n z hl]
    · rw [List.getElem?_eq_none (by rw [len, l4, len]; omega), List.getElem?_eq_none (by rw [len]; omega)]
  · rw [DL.wipe_out z, q4 n (fun y => z (hj n y)), DL.wipe_out z]
theorem se_lc {wi : TI} {w : Sl → Hs → RE Wk} {g : TG} {gf : G} {js vs : List Nat} {W2 : WX} (hi : SimI K ca W wi w) (hg : SimG K ca g gf js) (hj : ∀ j ∈ js, j ∈ vs) (ht : SimT K ca W2 t ft) (ha : SimE K ca W2 ta a) : SimE K ca W (tLc wi g t ta vs) (eLc w gf ft a vs) := fun F m A σ H env Q R S p => by
  refine hi F m A σ H env _ R S ?_
  unfold eLc at p
  cases q : w env A with
  | stuck => rw [q] at p; exact p
  | exc C A1 => rw [q] at p; exact p
  | ok k A1 =>
    rw [q] at p
    rintro J F1 m1 H1 R1 g1 ⟨G, Y, wk, hG, hY⟩ Dl hD
    have p := Po.stp (r := match lcL gf ft a k.gd (wipeS env vs) k.ds [] A1 with
      | .ok l A2 => alloc A2 (.lst l)
      | _ => .stuck) p g1
    obtain ⟨R2, g2⟩ := R1.newH (u := .lst []) hD
    -- the plain run from turn i
    let run := fun (i : Nat) (acc : List D) (A' : Hs) => match lcL gf ft a k.gd (wipeS env vs) (k.ds.drop i) acc A' with
      | .ok l A2 => alloc A2 (.lst l)
      | _ => RE.stuck
    refine lc_it wk (fun i H' => ∃ F' m' A' acc ws, Rl K ca F' m' A' H' ∧ Stp F1 m1 H1 F' m' H' ∧ H' Dl = some (.lst ws) ∧ Dl ∉ m' ∧ F' Dl = none ∧ RepL K ca F' m' ws acc ∧ Po K ca (Rep K ca) F1 m1 H1 W σ Q (run i acc A')) ?_ ?_ ?_ ?_
    · exact ⟨F1, m1, A1, [], [], R2, g2, upd_same, R1.out hD, R1.fh.back hD, .nil, p⟩
    · rintro i H' hi ⟨F', m', A', acc, ws, R', g', d1, d2, d3, rs, p'⟩
      refine hG F' m' A' H' ?_ R' g'
      show k.gd A'
      dsimp only [run] at p'
      cases z : k.ds.drop i with
      | nil =>
        rw [z] at p'; unfold lcL at p'
        by_cases y : k.gd A'
        · exact y
        · rw [if_neg y] at p'; exact p'.elim
      | cons d ds =>
        rw [z] at p'; unfold lcL at p'
        by_cases y : k.gd A'
        · exact y
        · rw [if_neg y] at p'; exact p'.elim
    · rintro i x H2 H3 hlt ⟨F2, m2, A2, acc, ws, R2, g2, d1, d2, d3, rs, p2⟩ y
      have gd2 : k.gd A2 := by
        dsimp only [run] at p2
        rw [List.drop_eq_getElem_cons hlt] at p2
        by_cases z : k.gd A2
        · exact z
        · unfold lcL at p2; rw [if_neg z] at p2; exact p2.elim
      have st3 : ∃ F3, Rl K ca F3 m2 A2 H3 ∧ Stp F2 m2 H2 F3 m2 H3 ∧ Rep K ca F3 m2 x k.ds[i] ∧ H3 Dl = some (.lst ws) ∧ F3 Dl = none := by
        rcases hY i k.ds[i] x F2 m2 A2 H2 H3 (by simp [hlt]) gd2 R2 g2 y with ⟨e, rp⟩ | ⟨T, us, l, q1, q2, q3, q4, q5⟩ | ⟨T, us, l, q1, q2, q3, q4, q5⟩ | ⟨F3, R3, g3, rp⟩
        · subst e; exact ⟨F2, R2, Stp.refl, rp, d1, d3⟩
        · subst q4
          rw [q1, q2]
          obtain ⟨R3, g3⟩ := R2.new (u := .tup us) q3
          have nT : Dl ≠ T := fun z => by rw [← z, d1] at q3; cases q3
          exact ⟨_, R3, g3, .tup upd_same (q5.mono g3.ff g3.mm), by rw [upd_ne nT]; exact d1, by rw [upd_ne nT]; exact d3⟩
        · subst q4
          rw [q1, q2]
          obtain ⟨F3, R3, g3, hT⟩ := R2.catch q3
          refine ⟨F3, R3, g3, .tup hT (q5.mono g3.ff g3.mm), d1, ?_⟩
          cases w : F3 Dl with
          | none => rfl
          | some v => have := R3.fh Dl v w; rw [d1] at this; cases this; exact (g3.gn Dl (by rw [w]; simp)).elim (fun z => absurd d3 z) fun z => z.elim (fun z => (z.no d1 trivial).elim) fun ⟨xs, z⟩ => by rw [w] at z; cases z
        · have d1' : H3 Dl = some (.lst ws) := g3.kp Dl _ d1 d2 (fun ps z => by cases z)
          refine ⟨F3, R3, g3, rp, d1', ?_⟩
          cases w : F3 Dl with
          | none => rfl
          | some v => have := R3.fh Dl v w; rw [d1'] at this; cases this; exact (g3.gn Dl (by rw [w]; simp)).elim (fun z => absurd d3 z) fun z => z.elim (fun z => (z.no d1 trivial).elim) fun ⟨xs, z⟩ => by rw [w] at z; cases z
      obtain ⟨F3, R3, g3, rp, e1, e3⟩ := st3
      have rs3 := rs.mono g3.ff g3.mm
      have p3 := p2
      dsimp only [run] at p3
      rw [List.drop_eq_getElem_cons hlt] at p3
      unfold lcL at p3
      by_cases gd : k.gd A2
      · rw [if_pos gd] at p3
        cases z : gf k.ds[i] (wipeS env vs) A2 with
        | none => rw [z] at p3; exact p3.elim
        | some env3 =>
          rw [z] at p3
          have S3 := (((S.stp g1).stp g2).stp g3).wiped vs
          refine hg F3 m2 A2 (L2.wipe σ vs) H3 _ x k.ds[i] env3 R3 S3 rp z _ fun σ3 S4 l4 k4 => ?_
          refine ⟨wipe_same hj l4 k4, ?_⟩
          -- what a step keeps of the new list
          have keep : ∀ {F' m' A' H'}, Rl K ca F' m' A' H' → Stp F3 m2 H3 F' m' H' → H' Dl = some (.lst ws) ∧ Dl ∉ m' ∧ F' Dl = none := fun R' g' => by
            have h1 := g'.kp Dl _ e1 d2 (by intro _ z; cases z)
            refine ⟨h1, fun z => ?_, ?_⟩
            · rcases g'.gm Dl z with y | y
              · exact d2 y
              · exact y.no e1 trivial
            · rename_i F' m' A' H'
              cases w : F' Dl with
              | none => rfl
              | some v =>
                rcases g'.gn Dl (by rw [w]; simp) with y | y | ⟨xs, y⟩
                · exact absurd e3 y
                · exact (y.no e1 trivial).elim
                · have := R'.fh Dl _ y
                  rw [h1] at this; cases this
          refine ht F3 m2 A2 σ3 H3 env3 _ R3 S4 ?_
          cases y : ft env3 A2 with
          | stuck => simp only [y] at p3; exact p3.elim
          | exc C A4 => simp only [y] at p3; exact p3.elim
          | ok bb A4 =>
            intro v F4 m4 H4 R4 g4 ev
            cases (show v = bb from ev)
            cases bb with
            | false =>
              simp only [y] at p3
              obtain ⟨f1, f2, f3⟩ := keep R4 g4
              exact ⟨F4, m4, A4, acc, ws, R4, (g2.trans g3).trans g4, f1, f2, f3, rs3.mono g4.ff g4.mm, p3⟩
            | true =>
              simp only [y] at p3
              have p4 := p3
              refine ha F4 m4 A4 σ3 H4 env3 _ R4 (S4.stp g4) ?_
              cases y2 : a env3 A4 with
              | stuck => simp only [y2] at p4; exact p4.elim
              | exc C A5 => simp only [y2] at p4; exact p4.elim
              | ok dz A5 =>
                simp only [y2] at p4
                by_cases hl : acc.length < sizeLine
                · rw [if_pos hl] at p4
                  intro v F5 m5 H5 R5 g5 rv
                  obtain ⟨f1, f2, f3⟩ := keep R5 (g4.trans g5)
                  refine ⟨ws, f1, by rw [rs.length]; exact hl, ?_⟩
                  have rs5 := rs3.mono (g4.trans g5).ff (g4.trans g5).mm
                  -- the new list grows
                  have ne : ∀ a, a ∈ m5 → a ≠ Dl := fun a ha z => f2 (by rw [← z]; exact ha)
                  have R6 : Rl K ca F5 m5 A5 (upd H5 Dl (.lst (ws ++ [v]))) := ⟨R5.fh.right f3, R5.len, R5.nd, R5.fr, fun j o b h1 h2 => (R5.ob j o b h1 h2).mono (Ex.refl _) (Pre.refl _) fun w hw => by
                    rw [upd_ne (ne b (List.mem_of_getElem? h2))]; exact hw, tabs_upd R5.tb f1 trivial, R5.ft⟩
                  have nD0 : H1 Dl = none := hD
                  have gA : Stp F1 m1 H1 F5 m5 H5 := ((g2.trans g3).trans g4).trans g5
                  have gB : Stp F1 m1 H1 F5 m5 (upd H5 Dl (.lst (ws ++ [v]))) := ⟨gA.ff, gA.mm, fun b w h n nt => by
                      rw [upd_ne fun z => by rw [z, nD0] at h; cases h]; exact gA.kp b w h n nt, gA.gn, gA.gm, fun b h => by
                      by_cases w : b = Dl
                      · rw [w]; exact .none nD0
                      · exact gA.th b (h.back fun u hu => by rw [upd_ne w]; exact hu), fun b od w h => by
                      rw [upd_ne fun z => by rw [z, nD0] at h; cases h]; exact gA.fz b od w h⟩
                  refine ⟨F5, m5, A5, acc ++ [dz], ws ++ [v], R6, gB, upd_same, f2, f3, rs5.append (.cons rv .nil), p4⟩
                · rw [if_neg hl] at p4; exact p4.elim
      · rw [if_neg gd] at p3; exact p3.elim
    · rintro H' ⟨F', m', A', acc, ws, R', g', d1, d2, d3, rs, p'⟩
      dsimp only [run] at p'
      rw [List.drop_length] at p'
      unfold lcL at p'
      by_cases gd : k.gd A'
      · rw [if_pos gd] at p'
        have R2 := R'.take (o := .lst acc) d2 d3 ⟨ws, d1, rs.mono (Ex.refl _) ⟨_, rfl⟩⟩
        refine p' (.ref Dl) F' (m' ++ [Dl]) H' R2 ⟨g'.ff, g'.mm.trans ⟨_, rfl⟩, g'.kp, g'.gn, fun b h => ?_, g'.th, g'.fz⟩ (.ref (by rw [List.getElem?_append_right (by rw [R'.len]; exact Nat.le_refl _), R'.len]; simp))
        rcases List.mem_append.mp h with z | z
        · exact g'.gm b z
        · rw [List.mem_singleton] at z; rw [z]; exact .inr (.none hD)
      · rw [if_neg gd] at p'; exact p'.elim

/-! ### new instances -/
/-! ### methods, by the classes at hand -/
end

/-! ### defs -/
section
variable {P : Program} {w : World} {K : PySem.W.Frag} {ca : CaT} {mg : Str → Option Value} {base : Heap} {x qn : Str} {st : Stmt} {fa : Addr} {fd : FuncData} {N ps : List Str} {k : Nat}
theorem spF_len {n mm : Nat} {b : S} {vs : List V} {H : Hp} {Q : VK} {E : XK} (h : SpF K ca (mkFn n mm b) vs H Q E) : vs.length = n := by
  obtain ⟨F, m, A, ds, R, rs, p⟩ := h
  rw [rs.length]
  unfold mkFn at p
  split at p
  · assumption
  · exact p.elim
theorem run_SpF {n : Nat} {b : S} {t : TS} {vs : List V} {H : Hp} {Q : VK} {E : XK} (h : SpF K ca (mkFn n N.length b) vs H Q E) (hb : SimS K ca (fun cls d _ H => E cls d H) t b) : t { nx := fun _ H' => Q .non H', rt := Q } (L2.start N vs) H := by
  have hl := spF_len h
  obtain ⟨F, m, A, ds, R, rs, p⟩ := h
  have hn : ds.length = n := by rw [← rs.length, hl]
  unfold mkFn at p
  rw [if_pos hn] at p
  have S : Slt K ca F m (L2.start N vs) (ds.map some ++ List.replicate (N.length - n) none) := by
    refine ⟨by unfold L2.start; simp [hl, hn], fun i d h => ?_⟩
    by_cases hi : i < ds.length
    · rw [List.getElem?_append_left (by simpa using hi), List.getElem?_map] at h
      cases z : ds[i]? with
      | none => rw [z] at h; cases h
      | some d' =>
        rw [z] at h; cases h
        obtain ⟨v, h1, h2⟩ := rs.get z
        refine ⟨v, ?_, h2⟩
        unfold L2.start
        have hv : i < vs.length := (List.getElem?_eq_some_iff.mp h1).1
        rw [List.getElem?_append_left (by simpa using hv), List.getElem?_map, h1]; rfl
    · rw [List.getElem?_append_right (by simpa using Nat.le_of_not_lt hi)] at h
      obtain ⟨h1, h2⟩ := List.getElem?_eq_some_iff.mp h
      rw [List.getElem_replicate] at h2
      cases h2
  refine hb F m A _ H _ _ R S ?_
  cases q : b (ds.map some ++ List.replicate (N.length - n) none) A with
  | nx e A' => rw [q] at p; exact fun F' m' σ' H' R' g' S' => p .non F' m' H' R' g' .non
  | rt d A' => rw [q] at p; exact p
  | exc C e A' => rw [q] at p; exact fun F' m' σ' H' R' g' S' => p F' m' H' R' g'
  | bk e A' => rw [q] at p; exact p.elim
  | ct e A' => rw [q] at p; exact p.elim
  | stuck => rw [q] at p; exact p.elim
/-- a def that may raise -/
theorem Fn.ofF {n : Nat} {b : S} (F : Fun K x qn st fa fd) (S : FnScope N ps (defScope st)) (hn : ps.length = n)
    (body : ∀ (cdv : Value) (A : Around) (outer : List PySem.Env) (s : Shared) (H : Hp) (E : XK), Room k (A.deeper (PyProof.Rows.envOfC qn (defScope st) s.heap.objs.size fa cdv)) →
      ∃ t, PSs (cxOf (L2.CX P w) P w K mg base N qn (defScope st) fa cdv A outer s H E) (defBody st) t ∧ SimS K ca (fun cls d _ H => E cls d H) t b) : FnOk P w K mg base (L2.CX P w) (k + 1) fa fd ps (SpF K ca (mkFn n N.length b)) :=
  F.okX S (fun vs H Q E h => by rw [hn]; exact spF_len h) fun cdv A outer s H vs Q E hr h => by
    obtain ⟨t, h1, h2⟩ := body cdv A outer s H E hr
    exact ⟨t, h1, run_SpF h h2⟩
end
/-! ### methods by name -/
structure Mt (P : Program) (w : World) (K : PySem.W.Frag) (mg : Str → Option Value) (base : Heap) (k : Nat) (C : Addr) (mm : Str) (sp : Sp) : Prop where
  ex : ∃ (f : Addr) (fd : FuncData) (ps : List Str), Meth K C mm f ∧ FnOk P w K mg base (L2.CX P w) k f fd ps sp ∧ Binds K fd ps []
theorem Mt.of {P : Program} {w : World} {K : PySem.W.Frag} {mg : Str → Option Value} {base : Heap} {k : Nat} {C fa : Addr} {mm : Str} {fd : FuncData} {ps : List Str} {sp : Sp} (M : Meth K C mm fa) (h : FnOk P w K mg base (L2.CX P w) k fa fd ps sp) (b : Binds K fd ps []) : Mt P w K mg base k C mm sp := ⟨fa, fd, ps, M, h, b⟩
section
variable {X : Cx} {W : WX} {k j : Nat} {x mm : Str} {C : Addr} {sp : Sp} {p pos apos : Pos} {o e : Expr} {es : List Expr} {t : TA} {ta : TE}
open DL (Dx)
end
end SM

/-! ## == and in, of data of any texts -/
namespace L2
open PySem PySem.Spec PyProof.Rows
/-- two lists of different lengths -/
def UnL (H : Hp) (x y : V) : Prop := ∃ a b xs ys, x = .ref a ∧ y = .ref b ∧ H a = some (.lst xs) ∧ H b = some (.lst ys) ∧ xs.length ≠ ys.length
def rEqP (K : PySem.W.Frag) : R2 := fun x y H Q => (∃ d e, Dp K H x d ∧ Dp K H y e ∧ d.plain = true ∧ e.plain = true ∧ d.depth ≤ 60 ∧ Q (.bl (PyData.eqv d e)) H) ∨ (UnL H x y ∧ Q (.bl false) H)
def rNeP (K : PySem.W.Frag) : R2 := fun x y H Q => (∃ d e, Dp K H x d ∧ Dp K H y e ∧ d.plain = true ∧ e.plain = true ∧ d.depth ≤ 60 ∧ Q (.bl (!PyData.eqv d e)) H) ∨ (UnL H x y ∧ Q (.bl true) H)
theorem op_eqP {X : Cx} (hu : X.A.units + 64 < cLine) : OpR X (compareOp .Eq) (rEqP X.K) := by
  intro pins s σ H x y v u Q I rx ry h
  rcases h with ⟨d, e, hd, he, sd, se, dp, q⟩ | ⟨⟨a, b, xs, ys, rfl, rfl, ha, hb, hl⟩, q⟩
  · obtain ⟨as, r1⟩ := Dp.reads I d x v hd rx
    obtain ⟨bs, r2⟩ := Dp.reads I e y u he ry
    exact PySem.SeqAt.eq_plain r1 r2 sd se (by omega) ⟨.bl _, H, I, rfl, q⟩
  · cases (show v = Value.ref a from rx)
    cases (show u = Value.ref b from ry)
    obtain ⟨us, r1, p1, _⟩ := I.list (.inl (.inl ha))
    obtain ⟨ws, r2, p2, _⟩ := I.list (.inl (.inl hb))
    refine PySem.SeqAt.eq_list_lengthsAt p1.isList p2.isList ?_ (by omega) ⟨.bl _, H, I, rfl, q⟩
    rw [List.size_toArray, List.size_toArray, ← r1.length, ← r2.length]
    simpa using hl
theorem op_neP {X : Cx} (hu : X.A.units + 64 < cLine) : OpR X (compareOp .NotEq) (rNeP X.K) := by
  intro pins s σ H x y v u Q I rx ry h
  rcases h with ⟨d, e, hd, he, sd, se, dp, q⟩ | ⟨⟨a, b, xs, ys, rfl, rfl, ha, hb, hl⟩, q⟩
  · obtain ⟨as, r1⟩ := Dp.reads I d x v hd rx
    obtain ⟨bs, r2⟩ := Dp.reads I e y u he ry
    exact PySem.SeqAt.ne_plain r1 r2 sd se (by omega) ⟨.bl _, H, I, rfl, q⟩
  · cases (show v = Value.ref a from rx)
    cases (show u = Value.ref b from ry)
    obtain ⟨us, r1, p1, _⟩ := I.list (.inl (.inl ha))
    obtain ⟨ws, r2, p2, _⟩ := I.list (.inl (.inl hb))
    refine PySem.SeqAt.RcNeAt.lists_lengths p1.isList p2.isList ?_ (by omega) X.prog X.w _ _ ⟨.bl _, H, I, rfl, q⟩
    rw [List.size_toArray, List.size_toArray, ← r1.length, ← r2.length]
    simpa using hl
end L2
namespace SM
open PySem L2
open DL (Ex ExK rAddU rSubU rMulA rDivU rModU rPowU rShlU rShrU rAndU rOrU rXorU rLtU rLeU rGtU rGeU rIsU rNotU)

/-! ### data read as Python's -/
def allSome {α : Type} : List (Option α) → Option (List α)
  | [] => some []
  | some a :: r => (allSome r).map (a :: ·)
  | none :: _ => none
def pyA (A : Hs) : Nat → D → Option PyData
  | _, .non => some .none
  | _, .bl b => some (.bool b)
  | _, .int i => some (.int i)
  | _, .str x => some (.str x)
  | n + 1, .tup l => (allSome (l.map (pyA A n))).map .tuple
  | n + 1, .wt l => (allSome (l.map (pyA A n))).map .tuple
  | n + 1, .scr l => (allSome (l.map (pyA A n))).map .list
  | n + 1, .ref i => match A[i]? with
    | some (.lst l) => (allSome (l.map (pyA A n))).map .list
    | _ => none
  | _, _ => none

/-- two lists of different lengths -/
def unL (A : Hs) (x y : D) : Option Bool := match x, y with
  | .ref i, .ref j => match A[i]?, A[j]? with
    | some (.lst l), some (.lst k) => if l.length = k.length then none else some false
    | _, _ => none
  | _, _ => none
def eqA (A : Hs) (x y : D) : Option Bool := match pyA A 40 x, pyA A 40 y with
  | some p, some q => some (PyData.eqv p q)
  | _, _ => unL A x y
def oB (f : Hs → D → D → Option Bool) (x y : D) (A : Hs) : RE D := match f A x y with
  | some b => .ok (.bl b) A
  | none => .stuck
def oEq : D → D → Hs → RE D := oB eqA
def oNe : D → D → Hs → RE D := oB fun A x y => (eqA A x y).map (!·)
section
variable {K : PySem.W.Frag} {ca : CaT} {F F1 F2 H H1 H2 : Hp} {m m1 m2 : List Addr} {A A1 A2 : Hs} {σ : L2.St} {env : Sl} {W : WX} {Q : VK}
theorem dp_all {n : Nat} (R : Rl K ca F m A H) (ih : ∀ {v : V} {d : D} {p : PyData}, Rep K ca F m v d → pyA A n d = some p → Dp K H v p ∧ p.plain = true ∧ p.depth ≤ n) :
    ∀ {vs : List V} {l : List D} {ps : List PyData}, RepL K ca F m vs l → allSome (l.map (pyA A n)) = some ps → DpAll K H vs ps ∧ PyData.plainAll ps = true ∧ PyData.depthAll ps ≤ n
  | _, _, _, .nil, h => by cases h; exact ⟨.nil, rfl, Nat.zero_le _⟩
  | _, _, _, .cons (d := d) (ds := ds) r rs, h => by
    rw [List.map_cons] at h
    cases q : pyA A n d with
    | none => rw [q] at h; cases h
    | some p =>
      rw [q] at h
      unfold allSome at h
      cases q2 : allSome (ds.map (pyA A n)) with
      | none => rw [q2] at h; cases h
      | some ps =>
        rw [q2] at h
        cases h
        obtain ⟨h1, h2, h3⟩ := ih r q
        obtain ⟨g1, g2, g3⟩ := dp_all R ih rs q2
        exact ⟨.cons h1 g1, by unfold PyData.plainAll; rw [h2, g2]; rfl, by unfold PyData.depthAll; omega⟩
theorem dp_of (R : Rl K ca F m A H) : ∀ {n : Nat} {v : V} {d : D} {p : PyData}, Rep K ca F m v d → pyA A n d = some p → Dp K H v p ∧ p.plain = true ∧ p.depth ≤ n := by
  intro n
  induction n with
  | zero =>
    intro v d p r h
    cases r <;> simp [pyA] at h <;> subst h <;> exact ⟨by constructor, rfl, Nat.zero_le _⟩
  | succ n ih =>
    intro v d p r h
    cases r with
    | non => simp [pyA] at h; subst h; exact ⟨.non, rfl, Nat.zero_le _⟩
    | bl b => simp [pyA] at h; subst h; exact ⟨.bl b, rfl, Nat.zero_le _⟩
    | int i => simp [pyA] at h; subst h; exact ⟨.int i, rfl, Nat.zero_le _⟩
    | str x => simp [pyA] at h; subst h; exact ⟨.str x, rfl, Nat.zero_le _⟩
    | ty n => simp [pyA] at h
    | nm x => simp [pyA] at h
    | exc h' => simp [pyA] at h
    | tup s rs =>
      unfold pyA at h
      cases q : allSome (List.map (pyA A n) _) with
      | none => rw [q] at h; cases h
      | some ps =>
        rw [q] at h; cases h
        obtain ⟨h1, h2, h3⟩ := dp_all R ih rs q
        exact ⟨.tup (.inl (.inl (R.fh _ _ s))) h1, h2, by unfold PyData.depth; omega⟩
    | wt s rs =>
      unfold pyA at h
      cases q : allSome (List.map (pyA A n) _) with
      | none => rw [q] at h; cases h
      | some ps =>
        rw [q] at h; cases h
        obtain ⟨h1, h2, h3⟩ := dp_all R ih rs q
        exact ⟨.tup (R.fh.t s) h1, h2, by unfold PyData.depth; omega⟩
    | scr s rs =>
      unfold pyA at h
      cases q : allSome (List.map (pyA A n) _) with
      | none => rw [q] at h; cases h
      | some ps =>
        rw [q] at h; cases h
        obtain ⟨h1, h2, h3⟩ := dp_all R ih rs q
        exact ⟨.lst (R.fh.l s) h1, h2, by unfold PyData.depth; omega⟩
    | ref hm =>
      rename_i a i
      unfold pyA at h
      cases q0 : A[i]? with
      | none => simp [q0] at h
      | some o =>
        cases o with
        | lst l =>
          simp only [q0] at h
          obtain ⟨a', e, ha, vs, h1, h2⟩ := R.at (v := .ref a) q0 (.ref hm)
          cases e
          cases q : allSome (List.map (pyA A n) l) with
          | none => rw [q] at h; cases h
          | some ps =>
            rw [q] at h; cases h
            obtain ⟨h3, h4, h5⟩ := dp_all R ih h2 q
            exact ⟨.lst (.inl (.inl h1)) h3, h4, by unfold PyData.depth; omega⟩
        | dic _ _ _ => simp [q0] at h
        | obj _ _ => simp [q0] at h
        | nd _ => simp [q0] at h
theorem po_ok {α β : Type} {Rr : Hp → List Addr → β → α → Prop} {Q : β → Hp → Prop} {v : β} {d : α} (R : Rl K ca F m A H) (r : Rr F m v d) (p : Po K ca Rr F m H W σ Q (.ok d A)) : Q v H := p v F m H R Stp.refl r
theorem unL_of {x y : V} {dx dy : D} {b : Bool} (R : Rl K ca F m A H) (rx : Rep K ca F m x dx) (ry : Rep K ca F m y dy) (h : unL A dx dy = some b) : b = false ∧ UnL H x y := by
  unfold unL at h
  split at h
  · rename_i i j
    cases q1 : A[i]? with
    | none => simp [q1] at h
    | some o1 =>
      cases o1 with
      | lst l =>
        cases q2 : A[j]? with
        | none => simp [q1, q2] at h
        | some o2 =>
          cases o2 with
          | lst k =>
            simp only [q1, q2] at h
            split at h
            · cases h
            · rename_i hn
              obtain ⟨a, e, _, vs, h1, h2⟩ := R.at q1 rx
              obtain ⟨a', e', _, vs', h1', h2'⟩ := R.at q2 ry
              refine ⟨(Option.some.inj h).symm, a, a', vs, vs', e, e', h1, h1', ?_⟩
              rw [h2.length, h2'.length]
              exact hn
          | dic _ _ _ => simp [q1, q2] at h
          | obj _ _ => simp [q1, q2] at h
          | nd _ => simp [q1, q2] at h
      | dic _ _ _ => simp [q1] at h
      | obj _ _ => simp [q1] at h
      | nd _ => simp [q1] at h
  · cases h
theorem os_eq : OpS K ca (rEqP K) oEq := fun F m A H x y dx dy W σ Q R rx ry p => by
  unfold oEq oB at p
  cases q : eqA A dx dy with
  | none => rw [q] at p; exact p.elim
  | some b =>
    rw [q] at p
    unfold eqA at q
    split at q
    · rename_i p1 p2 q1 q2
      obtain ⟨a1, a2, a3⟩ := dp_of R rx q1
      obtain ⟨b1, b2, b3⟩ := dp_of R ry q2
      cases q
      exact .inl ⟨p1, p2, a1, b1, a2, b2, by omega, po_ok R (.bl _) p⟩
    · obtain ⟨rfl, u⟩ := unL_of R rx ry q
      exact .inr ⟨u, po_ok R (.bl _) p⟩
theorem os_ne : OpS K ca (rNeP K) oNe := fun F m A H x y dx dy W σ Q R rx ry p => by
  unfold oNe oB at p
  cases q : eqA A dx dy with
  | none => simp only [q, Option.map] at p; exact p.elim
  | some b =>
    simp only [q, Option.map] at p
    unfold eqA at q
    split at q
    · rename_i p1 p2 q1 q2
      obtain ⟨a1, a2, a3⟩ := dp_of R rx q1
      obtain ⟨b1, b2, b3⟩ := dp_of R ry q2
      cases q
      exact .inl ⟨p1, p2, a1, b1, a2, b2, by omega, po_ok R (.bl _) p⟩
    · obtain ⟨rfl, u⟩ := unL_of R rx ry q
      exact .inr ⟨u, po_ok R (.bl _) p⟩

/-! ### operators on ints -/
def oII (f : Int → Int → Option D) (x y : D) (A : Hs) : RE D := match x, y with
  | .int i, .int j => match f i j with
    | some d => .ok d A
    | none => .stuck
  | _, _ => .stuck
theorem os_ii {r : R2} {f : Int → Int → Option D} (h : ∀ i j d, f i j = some d → ∃ z, (∀ F m, Rep K ca F m z d) ∧ ∀ H Q, Q z H → r (.int i) (.int j) H Q) : OpS K ca r (oII f) := fun F m A H x y dx dy W σ Q R rx ry p => by
  cases rx with
  | int i =>
    cases ry with
    | int j =>
      unfold oII at p
      simp only at p
      cases q : f i j with
      | none => rw [q] at p; exact p.elim
      | some d =>
        rw [q] at p
        obtain ⟨z, hz, k⟩ := h i j d q
        exact k H Q (po_ok R (hz F m) p)
    | _ => exact p.elim
  | _ => exact p.elim
def oSub := oII fun i j => some (.int (i - j))
def oDiv := oII fun i j => if 0 < j ∧ j.natAbs.log2 < 9000 then some (.int (i / j)) else none
def oMod := oII fun i j => if 0 < j then some (.int (i % j)) else none
open Classical in
noncomputable def oPow := oII fun i j => if CPow i j then some (.int (i ^ j.toNat)) else none
def oLt := oII fun i j => some (.bl (decide (i < j)))
def oLe := oII fun i j => some (.bl (decide (i ≤ j)))
def oGt := oII fun i j => some (.bl (decide (j < i)))
def oGe := oII fun i j => some (.bl (decide (j ≤ i)))
theorem os_sub : OpS K ca rSubU oSub := os_ii fun i j d h => by cases h; exact ⟨_, fun _ _ => .int _, fun H Q q => ⟨i, j, rfl, rfl, q⟩⟩
theorem os_div : OpS K ca rDivU oDiv := os_ii fun i j d h => by
  split at h
  · rename_i z; cases h; exact ⟨_, fun _ _ => .int _, fun H Q q => ⟨i, j, rfl, rfl, z, q⟩⟩
  · cases h
theorem os_mod : OpS K ca rModU oMod := os_ii fun i j d h => by
  split at h
  · rename_i z; cases h; exact ⟨_, fun _ _ => .int _, fun H Q q => ⟨i, j, rfl, rfl, z, q⟩⟩
  · cases h
theorem os_pow : OpS K ca rPowU oPow := os_ii fun i j d h => by
  split at h
  · rename_i z; cases h; exact ⟨_, fun _ _ => .int _, fun H Q q => ⟨i, j, rfl, rfl, z, q⟩⟩
  · cases h
theorem os_lt : OpS K ca rLtU oLt := os_ii fun i j d h => by cases h; exact ⟨_, fun _ _ => .bl _, fun H Q q => ⟨i, j, rfl, rfl, q⟩⟩
theorem os_le : OpS K ca rLeU oLe := os_ii fun i j d h => by cases h; exact ⟨_, fun _ _ => .bl _, fun H Q q => ⟨i, j, rfl, rfl, q⟩⟩
theorem os_gt : OpS K ca rGtU oGt := os_ii fun i j d h => by cases h; exact ⟨_, fun _ _ => .bl _, fun H Q q => ⟨i, j, rfl, rfl, q⟩⟩
def oNeg (x : D) (A : Hs) : RE D := match x with
  | .int i => .ok (.int (-i)) A
  | _ => .stuck
theorem us_neg : UnS K ca (rU fun i => .int (-i)) oNeg := fun F m A H x dx W σ Q R rx p => by
  cases rx with
  | int i => exact ⟨i, rfl, po_ok R (.int _) p⟩
  | _ => exact p.elim
/-- a list that may be read -/
def seqL (A : Hs) : D → Option (List D)
  | .ref i => match A[i]? with
    | some (.lst l) => some l
    | _ => none
  | .scr l => some l
  | _ => none
def seqT : D → Option (List D)
  | .tup l => some l
  | .wt l => some l
  | _ => none
theorem seqL_at {x : V} {d : D} {l : List D} (R : Rl K ca F m A H) (r : Rep K ca F m x d) (h : seqL A d = some l) : ∃ a vs, x = .ref a ∧ SqL K H a vs ∧ RepL K ca F m vs l := by
  cases r with
  | ref hm =>
    rename_i a i
    unfold seqL at h
    simp only at h
    cases q : A[i]? with
    | none => simp [q] at h
    | some o =>
      cases o with
      | lst l' =>
        simp [q] at h; subst h
        obtain ⟨a', e, ha, vs, h1, h2⟩ := R.at (v := .ref a) q (.ref hm)
        cases e
        exact ⟨a, vs, rfl, .inl (.inl h1), h2⟩
      | dic _ _ _ => simp [q] at h
      | obj _ _ => simp [q] at h
      | nd _ => simp [q] at h
  | scr s rs => cases h; exact ⟨_, _, rfl, R.fh.l s, rs⟩
  | _ => cases h
theorem seqT_at {x : V} {d : D} {l : List D} (R : Rl K ca F m A H) (r : Rep K ca F m x d) (h : seqT d = some l) : ∃ a vs, x = .ref a ∧ SqT K H a vs ∧ RepL K ca F m vs l := by
  cases r with
  | tup s rs => cases h; exact ⟨_, _, rfl, .inl (.inl (R.fh _ _ s)), rs⟩
  | wt s rs => cases h; exact ⟨_, _, rfl, R.fh.t s, rs⟩
  | _ => cases h
/-- a list of the plain heap -/
theorem lst_at {x : V} {i : Nat} {l : List D} (R : Rl K ca F m A H) (r : Rep K ca F m x (.ref i)) (h : A[i]? = some (.lst l)) : ∃ a vs, x = .ref a ∧ m[i]? = some a ∧ H a = some (.lst vs) ∧ RepL K ca F m vs l := by
  obtain ⟨a, e, ha, vs, h1, h2⟩ := R.at h r
  exact ⟨a, vs, e, ha, h1, h2⟩
theorem lst_put {i : Nat} {l' : List D} {vs' : List V} (R : Rl K ca F m A H) {a : Addr} {vs : List V} (ha : m[i]? = some a) (h1 : H a = some (.lst vs)) (r : RepL K ca F m vs' l') :
    Rl K ca F m (A.set i (.lst l')) (upd H a (.lst vs')) ∧ Stp F m H F m (upd H a (.lst vs')) :=
  R.put (o' := .lst l') ha (fun od w z => by rw [h1] at z; cases z) ⟨vs', upd_same, r⟩

/-! ### + -/
def oAdd (x y : D) (A : Hs) : RE D := match x, y with
  | .int i, .int j => .ok (.int (i + j)) A
  | .str a, .str b => if a.length + b.length ≤ sizeLine then .ok (.str (a ++ b)) A else .stuck
  | .tup l, .tup k => if l.length + k.length ≤ sizeLine then .ok (.tup (l ++ k)) A else .stuck
  | .wt l, .tup k => if l ≠ [] ∧ l.length + k.length ≤ sizeLine then .ok (if k.isEmpty then .wt l else .tup (l ++ k)) A else .stuck
  | .tup l, .wt k => if k ≠ [] ∧ l.length + k.length ≤ sizeLine then .ok (if l.isEmpty then .wt k else .tup (l ++ k)) A else .stuck
  | .ref i, .ref j => match A[i]?, A[j]? with
    | some (.lst l), some (.lst k) => if l.length + k.length ≤ sizeLine then alloc A (.lst (l ++ k)) else .stuck
    | _, _ => .stuck
  | _, _ => .stuck
theorem os_add : OpS K ca (rAddU K) oAdd := fun F m A H x y dx dy W σ Q R rx ry p => by
  cases rx with
  | int i =>
    cases ry with
    | int j => exact .inl ⟨i, j, rfl, rfl, po_ok R (.int _) p⟩
    | _ => exact p.elim
  | str a =>
    cases ry with
    | str b =>
      unfold oAdd at p
      simp only at p
      split at p
      · rename_i hl; exact .inr (.inl ⟨a, b, rfl, rfl, hl, po_ok R (.str _) p⟩)
      · exact p.elim
    | _ => exact p.elim
  | tup s rs =>
    cases ry with
    | tup s' rs' =>
      rename_i a vs l b ws k
      unfold oAdd at p
      simp only at p
      split at p
      · rename_i hl
        refine .inr (.inr (.inl ⟨a, b, vs, ws, rfl, rfl, .inl (.inl (R.fh _ _ s)), .inl (.inl (R.fh _ _ s')), by rw [rs.length, rs'.length]; exact hl, fun e => ?_, fun _ e => ?_, fun _ _ q hq => ?_⟩))
        · subst e; cases rs; exact po_ok R (.tup s' rs') p
        · subst e; cases rs'; rw [List.append_nil] at p; exact po_ok R (.tup s rs) p
        · obtain ⟨R2, g2⟩ := R.new (u := .tup (vs ++ ws)) hq
          exact p _ _ _ _ R2 g2 (.tup upd_same ((rs.append rs').mono g2.ff g2.mm))
      · exact p.elim
    | wt s' rs' =>
      rename_i a vs l b ws k
      unfold oAdd at p
      simp only at p
      split at p
      · rename_i hl
        refine .inr (.inr (.inl ⟨a, b, vs, ws, rfl, rfl, .inl (.inl (R.fh _ _ s)), R.fh.t s', by rw [rs.length, rs'.length]; exact hl.2, fun e => ?_, fun _ e => ?_, fun n1 _ q hq => ?_⟩))
        · subst e; cases rs; exact po_ok R (.wt s' rs') p
        · subst e; cases rs'; exact absurd rfl hl.1
        · obtain ⟨R2, g2⟩ := R.new (u := .tup (vs ++ ws)) hq
          have : l.isEmpty = false := by
            cases rs with
            | nil => exact absurd rfl n1
            | cons _ _ => rfl
          rw [this] at p
          exact p _ _ _ _ R2 g2 (.tup upd_same ((rs.append rs').mono g2.ff g2.mm))
      · exact p.elim
    | _ => exact p.elim
  | wt s rs =>
    cases ry with
    | tup s' rs' =>
      rename_i a vs l b ws k
      unfold oAdd at p
      simp only at p
      split at p
      · rename_i hl
        refine .inr (.inr (.inl ⟨a, b, vs, ws, rfl, rfl, R.fh.t s, .inl (.inl (R.fh _ _ s')), by rw [rs.length, rs'.length]; exact hl.2, fun e => ?_, fun _ e => ?_, fun _ n2 q hq => ?_⟩))
        · subst e; cases rs; exact absurd rfl hl.1
        · subst e; cases rs'; exact po_ok R (.wt s rs) p
        · obtain ⟨R2, g2⟩ := R.new (u := .tup (vs ++ ws)) hq
          have : k.isEmpty = false := by
            cases rs' with
            | nil => exact absurd rfl n2
            | cons _ _ => rfl
          rw [this] at p
          exact p _ _ _ _ R2 g2 (.tup upd_same ((rs.append rs').mono g2.ff g2.mm))
      · exact p.elim
    | _ => exact p.elim
  | ref hm =>
    cases ry with
    | ref hm' =>
      rename_i a i b j
      unfold oAdd at p
      simp only at p
      split at p
      · rename_i l k q1 q2
        split at p
        · rename_i hl
          obtain ⟨a', vs, e1, h1, h2, h3⟩ := lst_at R (.ref hm) q1
          obtain ⟨b', ws, e2, h4, h5, h6⟩ := lst_at R (.ref hm') q2
          refine .inr (.inr (.inr ⟨a', b', vs, ws, e1, e2, h2, h5, by rw [h3.length, h6.length]; exact hl, fun q hq => ?_⟩))
          exact po_alloc (o := .lst (l ++ k)) R hq ⟨_, upd_same, (h3.append h6).mono (Ex.refl _) ⟨_, rfl⟩⟩ p
        · exact p.elim
      · exact p.elim
    | _ => exact p.elim
  | _ => exact p.elim
/-! ### * -/
open Classical in
noncomputable def oMul (x y : D) (A : Hs) : RE D := match x, y with
  | .int i, .int j => if CMul i j ∨ CMulX i j then .ok (.int (i * j)) A else .stuck
  | .tup l, .int j => if l.length ≤ 1000 ∧ -1000 ≤ j ∧ j ≤ 4000 then .ok (.tup (List.replicate j.toNat l).flatten) A else .stuck
  | .ref i, .int j => match A[i]? with
    | some (.lst l) => if -(2 ^ 63) ≤ j ∧ j < 2 ^ 63 ∧ l.length * j.toNat ≤ sizeLine then alloc A (.lst (List.replicate j.toNat l).flatten) else .stuck
    | _ => .stuck
  | _, _ => .stuck
theorem os_mul : OpS K ca (rMulA K) oMul := fun F m A H x y dx dy W σ Q R rx ry p => by
  cases ry with
  | int j =>
    cases rx with
    | int i =>
      unfold oMul at p
      simp only at p
      split at p
      · rename_i hc
        refine .inl ?_
        rcases hc with hc | hc
        · exact .inl ⟨i, j, rfl, rfl, hc, po_ok R (.int _) p⟩
        · exact .inr (.inl ⟨i, j, rfl, rfl, hc, po_ok R (.int _) p⟩)
      · exact p.elim
    | tup s rs =>
      rename_i a vs l
      unfold oMul at p
      simp only at p
      split at p
      · rename_i hc
        have lv := rs.length
        refine .inr ⟨a, j, vs, rfl, rfl, .inl (.inl (R.fh _ _ s)), hc.2.2, hc.2.1, by omega, fun e => ?_, fun e => ?_, fun n1 n2 q hq => ?_⟩
        · subst e; cases rs
          have : (List.replicate j.toNat ([] : List D)).flatten = [] := by simp
          rw [this] at p
          exact po_ok R (.tup s .nil) p
        · subst e
          have : (List.replicate (1 : Int).toNat l).flatten = l := by simp
          rw [this] at p
          exact po_ok R (.tup s rs) p
        · obtain ⟨R2, g2⟩ := R.new (u := .tup (List.replicate j.toNat vs).flatten) hq
          exact p _ _ _ _ R2 g2 (.tup upd_same ((rs.flatRep _).mono g2.ff g2.mm))
      · exact p.elim
    | ref hm =>
      rename_i a i
      unfold oMul at p
      simp only at p
      split at p
      · rename_i l q1
        split at p
        · rename_i hc
          obtain ⟨a', vs, e1, h1, h2, h3⟩ := lst_at R (.ref hm) q1
          refine .inl (.inr (.inr ⟨a', j, vs, e1, rfl, h2, hc.1, hc.2.1, by rw [h3.length]; exact hc.2.2, fun q hq => ?_⟩))
          exact po_alloc (o := .lst (List.replicate j.toNat l).flatten) R hq ⟨_, upd_same, (h3.flatRep _).mono (Ex.refl _) ⟨_, rfl⟩⟩ p
        · exact p.elim
      · exact p.elim
    | _ => exact p.elim
  | _ => cases rx <;> exact p.elim
/-! ### is -/
def isNon : D → Bool
  | .non => true
  | _ => false
theorem rep_non {v : V} {d : D} (h : Rep K ca F m v d) : decide (v = V.non) = isNon d := by
  cases h <;> first | rfl | simp [isNon]
def oIs (x y : D) (A : Hs) : RE D := match y with
  | .non => .ok (.bl (isNon x)) A
  | .bl c => match x with
    | .bl b => .ok (.bl (decide (b = c))) A
    | _ => .stuck
  | _ => .stuck
def oIsNot (x y : D) (A : Hs) : RE D := match y with
  | .non => .ok (.bl (!isNon x)) A
  | .bl c => match x with
    | .bl b => .ok (.bl (!decide (b = c))) A
    | _ => .stuck
  | _ => .stuck
theorem os_is : OpS K ca rIsU oIs := fun F m A H x y dx dy W σ Q R rx ry p => by
  cases ry with
  | non => refine .inl ⟨rfl, ?_⟩; rw [rep_non rx]; exact po_ok R (.bl _) p
  | bl c =>
    cases rx with
    | bl b => exact .inr ⟨b, c, rfl, rfl, po_ok R (.bl _) p⟩
    | _ => exact p.elim
  | _ => exact p.elim
theorem os_isnot : OpS K ca rNotU oIsNot := fun F m A H x y dx dy W σ Q R rx ry p => by
  cases ry with
  | non => refine .inl ⟨rfl, ?_⟩; rw [rep_non rx]; exact po_ok R (.bl _) p
  | bl c =>
    cases rx with
    | bl b => exact .inr ⟨b, c, rfl, rfl, po_ok R (.bl _) p⟩
    | _ => exact p.elim
  | _ => exact p.elim
/-! ### subscripts -/
def oIx (x y : D) (A : Hs) : RE D := match y with
  | .int i => match seqL A x with
    | some l => match atI l i with
      | some d => .ok d A
      | none => .stuck
    | none => match seqT x with
      | some l => match atI l i with
        | some d => .ok d A
        | none => .stuck
      | none => match x with
        | .str z => if z.length ≤ sizeLine then match atI z.cps.toList i with
            | some c => .ok (.str ⟨#[c]⟩) A
            | none => .stuck
          else .stuck
        | _ => .stuck
  | _ => .stuck
theorem atI_rep {vs : List V} {l : List D} {i : Int} {d : D} (p : RepL K ca F m vs l) (h : atI l i = some d) : ∃ v, atI vs i = some v ∧ Rep K ca F m v d := by
  unfold atI at h ⊢
  obtain ⟨n, e, g⟩ := Option.bind_eq_some_iff.mp h
  obtain ⟨z, z1, z2⟩ := p.get g
  exact ⟨z, by rw [p.length, e]; exact z1, z2⟩
theorem os_ix : OpS K ca (rIx K) oIx := fun F m A H x y dx dy W σ Q R rx ry p => by
  cases ry with
  | int i =>
    unfold oIx at p
    simp only at p
    split at p
    · rename_i l hl
      split at p
      · rename_i d hd
        obtain ⟨a, vs, e, h1, h2⟩ := seqL_at R rx hl
        obtain ⟨v, h3, h4⟩ := atI_rep h2 hd
        exact .inl ⟨a, vs, i, v, e, rfl, h1, h3, po_ok R h4 p⟩
      · exact p.elim
    · split at p
      · rename_i l hl
        split at p
        · rename_i d hd
          obtain ⟨a, vs, e, h1, h2⟩ := seqT_at R rx hl
          obtain ⟨v, h3, h4⟩ := atI_rep h2 hd
          exact .inr (.inl ⟨a, vs, i, v, e, rfl, h1, h3, po_ok R h4 p⟩)
        · exact p.elim
      · cases rx with
        | str z =>
          simp only at p
          split at p
          · rename_i hz
            split at p
            · rename_i c hc
              exact .inr (.inr ⟨z, i, c, rfl, rfl, hz, hc, po_ok R (.str _) p⟩)
            · exact p.elim
          · exact p.elim
        | _ => exact p.elim
  | _ => exact p.elim
def cutD {α : Type} (xs : List α) (lo hi : Option Int) : List α := (xs.drop (HT.sIx xs.length 0 lo)).take (HT.sIx xs.length xs.length hi - HT.sIx xs.length 0 lo)
theorem cut_rep {vs : List V} {l : List D} {lo hi : Option Int} (h : RepL K ca F m vs l) : RepL K ca F m (cutV vs lo hi) (cutD l lo hi) := by
  unfold cutV cutD
  rw [h.length]
  exact (h.drop _).take _
def oSl (x : D) (lo hi : Option Int) (A : Hs) : RE D := match seqL A x with
  | some l => alloc A (.lst (cutD l lo hi))
  | none => match x with
    | .tup l => .ok (.tup (cutD l lo hi)) A
    | .str z => if z.length ≤ sizeLine then .ok (.str (cutS z lo hi)) A else .stuck
    | _ => .stuck
theorem sls_all : SlS K ca (DL.rSlU K) oSl := fun F m A H x dx lo hi W σ Q R rx p => by
  unfold oSl at p
  split at p
  · rename_i l hl
    obtain ⟨a, vs, e, h1, h2⟩ := seqL_at R rx hl
    exact .inl ⟨a, vs, e, h1, fun q hq => po_alloc (o := .lst (cutD l lo hi)) R hq ⟨_, upd_same, (cut_rep h2).mono (Ex.refl _) ⟨_, rfl⟩⟩ p⟩
  · cases rx with
    | @tup a vs l s rs =>
      refine .inr (.inl ⟨a, vs, rfl, .inl (.inl (R.fh _ _ s)), fun hw => ?_, fun _ q hq => ?_⟩)
      · have e : cutD l lo hi = l := by
          unfold cutD
          rw [← rs.length, hw.1, hw.2]
          simp [rs.length]
        simp only [e] at p
        exact po_ok R (.tup s rs) p
      · obtain ⟨R2, g2⟩ := R.new (u := .tup (cutV vs lo hi)) hq
        exact p _ _ _ _ R2 g2 (.tup upd_same ((cut_rep rs).mono g2.ff g2.mm))
    | str z =>
      simp only at p
      split at p
      · rename_i hz; exact .inr (.inr ⟨z, rfl, hz, po_ok R (.str _) p⟩)
      · exact p.elim
    | _ => exact p.elim
def oRev (x : D) (A : Hs) : RE D := match seqL A x with
  | some l => alloc A (.lst l.reverse)
  | none => .stuck
/-! ### which of two readings -/
theorem Sim.pick {α β : Type} {Rr : Hp → List Addr → β → α → Prop} {t u : L2.St → Hp → (β → Hp → Prop) → Prop} {f g h : Sl → Hs → RE α} (h1 : Sim K ca Rr W t g) (h2 : Sim K ca Rr W u h) (k : ∀ env A, f env A = g env A ∨ f env A = h env A) : Sim K ca Rr W (fun σ H Q => t σ H Q ∨ u σ H Q) f := fun F m A σ H env Q R S p => by
  rcases k env A with q | q
  · rw [q] at p; exact .inl (h1 F m A σ H env Q R S p)
  · rw [q] at p; exact .inr (h2 F m A σ H env Q R S p)
end
end SM

namespace L2
open PySem PySem.Spec PyProof.Rows
/-- x in a list or tuple of data -/
def rInP (K : PySem.W.Frag) (neg : Bool) : R2 := fun x y H Q => ∃ d ds, Dp K H x d ∧ (Dp K H y (.list ds) ∨ Dp K H y (.tuple ds)) ∧ d.plain = true ∧ PyData.plainAll ds = true ∧ d.depth ≤ 60 ∧ Q (.bl (if neg then !(ds.any fun z => PyData.eqv z d) else ds.any fun z => PyData.eqv z d)) H
theorem op_inP {X : Cx} {K : PySem.W.Frag} (hu : X.A.units + 65 < cLine) (eK : X.K = K := by rfl) : OpR X (compareOp .In) (rInP K false) := by
  subst eK
  intro pins s σ H x y v u Q I rx ry h
  obtain ⟨d, ds, hd, he, sd, se, dp, q⟩ := h
  obtain ⟨as, r1⟩ := Dp.reads I d x v hd rx
  rcases he with he | he
  · obtain ⟨bs, r2⟩ := Dp.reads I _ y u he ry
    exact PySem.SeqAt.in_list_data r2 r1 se sd (by omega) ⟨.bl _, H, I, rfl, q⟩
  · obtain ⟨bs, r2⟩ := Dp.reads I _ y u he ry
    exact PySem.SeqAt.in_tuple_data r2 r1 se sd (by omega) ⟨.bl _, H, I, rfl, q⟩
theorem op_notInP {X : Cx} {K : PySem.W.Frag} (hu : X.A.units + 65 < cLine) (eK : X.K = K := by rfl) : OpR X (compareOp .NotIn) (rInP K true) := by
  subst eK
  intro pins s σ H x y v u Q I rx ry h
  obtain ⟨d, ds, hd, he, sd, se, dp, q⟩ := h
  obtain ⟨as, r1⟩ := Dp.reads I d x v hd rx
  rcases he with he | he
  · obtain ⟨bs, r2⟩ := Dp.reads I _ y u he ry
    exact PySem.SeqAt.notIn_list_data r2 r1 se sd (by omega) ⟨.bl _, H, I, rfl, q⟩
  · obtain ⟨bs, r2⟩ := Dp.reads I _ y u he ry
    exact PySem.SeqAt.notIn_tuple_data r2 r1 se sd (by omega) ⟨.bl _, H, I, rfl, q⟩
/-- y in d -/
def rDIn (neg : Bool) : R2 := fun y x H Q => ∃ a o, x = .ref a ∧ DGet H a y o ∧ Q (.bl (if neg then !o.isSome else o.isSome)) H
theorem op_dIn {X : Cx} (hu : X.A.units + 65 < cLine) : OpR X (compareOp .In) (rDIn false) := by
  intro pins s σ H y x iv u Q I ry rx h
  obtain ⟨a, ov, ex, g, q2⟩ := h
  subst ex
  obtain rfl : u = Value.ref a := rx
  exact d_in (by omega) I g ry fun s3 I3 => ⟨.bl ov.isSome, H, I3, rfl, q2⟩
theorem op_dNotIn {X : Cx} (hu : X.A.units + 65 < cLine) : OpR X (compareOp .NotIn) (rDIn true) := by
  intro pins s σ H y x iv u Q I ry rx h
  obtain ⟨a, ov, ex, g, q2⟩ := h
  subst ex
  obtain rfl : u = Value.ref a := rx
  exact d_notIn (by omega) I g ry fun s3 I3 => ⟨.bl (!ov.isSome), H, I3, rfl, q2⟩
def rInAll (K : PySem.W.Frag) (neg : Bool) : R2 := fun x y H Q => rInP K neg x y H Q ∨ (DL.rSign neg x y H Q ∨ rDIn neg x y H Q)
theorem op_inAll {X : Cx} {K : PySem.W.Frag} (hu : X.A.units + 65 < cLine) (e : X.K = K := by rfl) : OpR X (compareOp .In) (rInAll K false) := DL.OpR.or (op_inP hu e) (DL.OpR.or op_in_sign (op_dIn hu))
theorem op_notInAll {X : Cx} {K : PySem.W.Frag} (hu : X.A.units + 65 < cLine) (e : X.K = K := by rfl) : OpR X (compareOp .NotIn) (rInAll K true) := DL.OpR.or (op_notInP hu e) (DL.OpR.or op_notIn_sign (op_dNotIn hu))
theorem op_eqPK {X : Cx} {K : PySem.W.Frag} (hu : X.A.units + 65 < cLine) (e : X.K = K := by rfl) : OpR X (compareOp .Eq) (rEqP K) := by subst e; exact op_eqP (by omega)
theorem op_nePK {X : Cx} {K : PySem.W.Frag} (hu : X.A.units + 65 < cLine) (e : X.K = K := by rfl) : OpR X (compareOp .NotEq) (rNeP K) := by subst e; exact op_neP (by omega)
end L2
namespace SM
open PySem L2
open DL (Ex ExK rLenU rAbs rMax2 rMin2 rInt1 rListOf rTupleOf iSeqU rIsiU InC)
section
variable {K : PySem.W.Frag} {ca : CaT} {F F1 F2 H H1 H2 : Hp} {m m1 m2 : List Addr} {A A1 A2 : Hs} {σ : L2.St} {env : Sl} {W : WX} {Q : VK}
variable {ta tb tc te : TE} {a b c : E} {i : Nat} {d : D} {ts : TA} {as : As} {x : V} {dx : D}
/-! ### dicts -/
def keyK : D → Option Key
  | .int i => some (.inl i)
  | .str x => some (.inr x)
  | _ => none
def keysK : List D → Option (List Key)
  | [] => some []
  | d :: r => match keyK d, keysK r with
    | some k, some ks => some (k :: ks)
    | _, _ => none
/-- whether two keys are one -/
def keq : D → D → Bool
  | .int i, .int j => decide (i = j)
  | .str x, .str y => decide (x = y)
  | .tup l, .tup k => keqL l k
  | _, _ => false
where keqL : List D → List D → Bool
  | [], [] => true
  | .int i :: r, .int j :: s => decide (i = j) && keqL r s
  | .str x :: r, .str y :: s => decide (x = y) && keqL r s
  | _, _ => false
def kget : List (D × D) → D → Option D
  | [], _ => none
  | (k, v) :: r, y => if keq k y then some v else kget r y
def khas (l : List (D × D)) (y : D) : Bool := l.any fun kv => keq kv.1 y
def kput (l : List (D × D)) (y v : D) : List (D × D) := if khas l y then l.map (fun kv => if keq kv.1 y then (kv.1, v) else kv) else l ++ [(y, v)]
def kdel (l : List (D × D)) (y : D) : List (D × D) := l.filter fun kv => !keq kv.1 y
/-- y may be a key of a dict of the kind t -/
def keyOk : Bool → D → Bool
  | false, y => (keyK y).isSome
  | true, .tup l => (keysK l).isSome
  | true, _ => false
theorem keyK_kD {y : D} {k : Key} (h : keyK y = some k) : y = kD k := by
  cases y <;> simp [keyK] at h <;> subst h <;> rfl
theorem keysK_kT : ∀ {l : List D} {ks : List Key}, keysK l = some ks → l = ks.map kD
  | [], ks, h => by cases h; rfl
  | d :: r, ks, h => by
    unfold keysK at h
    cases q : keyK d with
    | none => rw [q] at h; cases h
    | some k =>
      cases q2 : keysK r with
      | none => rw [q, q2] at h; cases h
      | some s => rw [q, q2] at h; cases h; rw [List.map_cons, ← keyK_kD q, ← keysK_kT q2]
theorem keq_kD (a b : Key) : keq (kD a) (kD b) = decide (a = b) := by
  cases a <;> cases b <;> simp [kD, keq]
theorem keqL_kT : ∀ (a b : List Key), keq.keqL (a.map kD) (b.map kD) = decide (a = b)
  | [], [] => by simp [keq.keqL]
  | [], y :: s => by cases y <;> simp [keq.keqL]
  | x :: r, [] => by cases x <;> simp [keq.keqL]
  | x :: r, y :: s => by
    have ih := keqL_kT r s
    cases x <;> cases y <;> simp [kD, keq.keqL, ih]
theorem keq_kT (a b : List Key) : keq (kT a) (kT b) = decide (a = b) := by
  unfold kT keq; exact keqL_kT a b
section
variable {κ : Type} [DecidableEq κ] {kd : κ → D}
theorem kget_rep (hk : ∀ a b, keq (kd a) (kd b) = decide (a = b)) {k : κ} : ∀ {kvs : List (κ × V)} {l : List (D × D)}, KvR K ca F m kd kvs l → (∀ d, kget l (kd k) = some d → ∃ v, valV kvs k = some v ∧ Rep K ca F m v d) ∧ (kget l (kd k) = none → valV kvs k = none)
  | _, _, .nil => ⟨fun d h => by simp [kget] at h, fun _ => rfl⟩
  | _, _, .cons (k := k') (v := v') h r => by
    have ih := kget_rep hk (k := k) r
    unfold kget valV
    by_cases q : k' = k
    · subst q
      simp only [hk, decide_true, if_true, List.find?_cons]
      exact ⟨fun d e => by cases e; exact ⟨v', by simp, h⟩, fun e => by cases e⟩
    · rw [hk, decide_eq_false q]
      simp only [Bool.false_eq_true, if_false, List.find?_cons, decide_eq_false q]
      exact ih
theorem khas_rep (hk : ∀ a b, keq (kd a) (kd b) = decide (a = b)) {k : κ} : ∀ {kvs : List (κ × V)} {l : List (D × D)}, KvR K ca F m kd kvs l → khas l (kd k) = kvs.any fun kv => decide (kv.1 = k)
  | _, _, .nil => rfl
  | _, _, .cons h r => by
    have ih := khas_rep hk (k := k) r
    unfold khas at ih ⊢
    rw [List.any_cons, List.any_cons, ih, hk]
theorem KvR.snoc {k : κ} {v : V} (hv : Rep K ca F m v d) : ∀ {kvs : List (κ × V)} {l : List (D × D)}, KvR K ca F m kd kvs l → KvR K ca F m kd (kvs ++ [(k, v)]) (l ++ [(kd k, d)])
  | _, _, .nil => .cons hv .nil
  | _, _, .cons h r => .cons h (KvR.snoc hv r)
theorem KvR.remap (hk : ∀ a b, keq (kd a) (kd b) = decide (a = b)) {k : κ} {v : V} (hv : Rep K ca F m v d) : ∀ {kvs : List (κ × V)} {l : List (D × D)}, KvR K ca F m kd kvs l → KvR K ca F m kd (kvs.map fun kv => if kv.1 = k then (kv.1, v) else kv) (l.map fun kv => if keq kv.1 (kd k) then (kv.1, d) else kv)
  | _, _, .nil => .nil
  | _, _, .cons (k := k') h r => by
    rw [List.map_cons, List.map_cons]
    by_cases q : k' = k
    · simp only [q, hk, decide_true, if_true]; exact .cons hv (KvR.remap hk hv r)
    · simp only [q, hk, decide_false, Bool.false_eq_true, if_false]; exact .cons h (KvR.remap hk hv r)
theorem kput_rep (hk : ∀ a b, keq (kd a) (kd b) = decide (a = b)) {k : κ} {v : V} (hv : Rep K ca F m v d) {kvs : List (κ × V)} {l : List (D × D)} (h : KvR K ca F m kd kvs l) : KvR K ca F m kd (putK kvs k v) (kput l (kd k) d) := by
  unfold putK kput
  rw [khas_rep hk h]
  split
  · exact KvR.remap hk hv h
  · exact KvR.snoc hv h
end
/-- the dict at hand: its kind, its pairs -/
def dicAt (A : Hs) : D → Option (Bool × List (D × D))
  | .ref i => match A[i]? with
    | some (.dic t _ l) => some (t, l)
    | _ => none
  | _ => none
theorem rdK {lk : Bool} {a : Addr} {u : HO} (h : At H a lk u) : L2.Rd H a u := by
  cases lk with
  | false => exact .inl h
  | true => exact .inr h
theorem tup_key {y : V} {l : List D} {ks : List Key} (R : Rl K ca F m A H) (r : Rep K ca F m y (.tup l)) (h : keysK l = some ks) : ∃ b, y = .ref b ∧ H b = some (.tup (ks.map kV)) := by
  cases r with
  | tup s rs =>
    refine ⟨_, rfl, ?_⟩
    have e := keysK_kT h
    subst e
    have : ∀ {vs : List V} {ks : List Key}, RepL K ca F m vs (ks.map kD) → vs = ks.map kV := by
      intro vs ks
      induction ks generalizing vs with
      | nil => intro r; cases r; rfl
      | cons k ks ih =>
        intro r
        cases r with
        | cons q t =>
          rw [List.map_cons, ih t]
          cases k with
          | inl i => cases q; rfl
          | inr x => cases q; rfl
    rw [← this rs]
    exact R.fh _ _ s
/-- what the dict holds at a key -/
theorem dic_get {x y : V} {dy : D} {t : Bool} {l : List (D × D)} (R : Rl K ca F m A H) (rx : Rep K ca F m x dx) (ry : Rep K ca F m y dy) (h : dicAt A dx = some (t, l)) (hk : keyOk t dy = true) : ∃ a o, x = .ref a ∧ DGet H a y o ∧ L2.IsD H a ∧ (∀ d, kget l dy = some d → ∃ v, o = some v ∧ Rep K ca F m v d) ∧ (kget l dy = none → o = none) := by
  cases dx with
  | ref i =>
    unfold dicAt at h
    cases q : A[i]? with
    | none => simp [q] at h
    | some o =>
      cases o with
      | dic t' lk l' =>
        simp [q] at h
        obtain ⟨rfl, rfl⟩ := h
        obtain ⟨a, e, ha, r⟩ := R.at q rx
        cases t' with
        | false =>
          obtain ⟨kvs, h1, h2⟩ := r
          cases z : keyK dy with
          | none => simp [keyOk, z] at hk
          | some k =>
            have e2 := keyK_kD z
            subst e2
            obtain ⟨g1, g2⟩ := kget_rep keq_kD (k := k) h2
            refine ⟨a, valV kvs k, e, .inl ⟨kvs, k, rdK h1, ?_, rfl⟩, .inl ⟨kvs, rdK h1⟩, g1, g2⟩
            cases k with
            | inl i => cases ry; rfl
            | inr x => cases ry; rfl
        | true =>
          obtain ⟨kvs, h1, h2⟩ := r
          cases dy with
          | tup dl =>
              cases z : keysK dl with
            | none => simp [keyOk, z] at hk
            | some ks =>
              obtain ⟨b, e3, h3⟩ := tup_key R ry z
              have e2 := keysK_kT z
              subst e2
              obtain ⟨g1, g2⟩ := kget_rep keq_kT (k := ks) h2
              exact ⟨a, valV kvs ks, e, .inr ⟨kvs, ks, b, rdK h1, e3, h3, rfl⟩, .inr ⟨kvs, rdK h1⟩, g1, g2⟩
          | _ => simp [keyOk] at hk
      | lst _ => simp [q] at h
      | obj _ _ => simp [q] at h
      | nd _ => simp [q] at h
  | _ => simp [dicAt] at h
/-- d[y] -/
def oDGet (x y : D) (A : Hs) : RE D := match dicAt A x with
  | some (t, l) => if keyOk t y then match kget l y with
      | some d => .ok d A
      | none => .stuck
    else .stuck
  | none => .stuck
/-- y in c -/
def inData (A : Hs) (x c : D) : Option Bool := match pyA A 40 x, pyA A 40 c with
  | some p, some (.list ps) => some (ps.any fun z => PyData.eqv z p)
  | some p, some (.tuple ps) => some (ps.any fun z => PyData.eqv z p)
  | _, _ => none
def inStr (x : D) (w : Str) : Option Bool := match x with
  | .str z => match z.cps.toList with
    | [k] => some (decide (k ∈ w.cps.toList))
    | _ => none
  | _ => none
def inDic (t : Bool) (l : List (D × D)) (x : D) : Option Bool := if keyOk t x then some (kget l x).isSome else none
def inA (A : Hs) (x c : D) : Option Bool := match dicAt A c with
  | some (t, l) => inDic t l x
  | none => match c with
    | .str w => inStr x w
    | _ => inData A x c
def oIn : D → D → Hs → RE D := oB inA
def oNotIn : D → D → Hs → RE D := oB fun A x y => (inA A x y).map (!·)
theorem in_data {neg b : Bool} {x y : V} {dx dy : D} (R : Rl K ca F m A H) (rx : Rep K ca F m x dx) (ry : Rep K ca F m y dy) (h : inData A dx dy = some b) (q : Q (.bl (if neg then !b else b)) H) : rInAll K neg x y H Q := by
  unfold inData at h
  cases q1 : pyA A 40 dx with
  | none => simp [q1] at h
  | some p1 =>
    cases q2 : pyA A 40 dy with
    | none => simp [q1, q2] at h
    | some p2 =>
      obtain ⟨a1, a2, a3⟩ := dp_of R rx q1
      obtain ⟨b1, b2, b3⟩ := dp_of R ry q2
      cases p2 with
      | list ps =>
        simp only [q1, q2, Option.some.injEq] at h
        subst h
        exact .inl ⟨p1, ps, a1, .inl b1, a2, b2, by omega, q⟩
      | tuple ps =>
        simp only [q1, q2, Option.some.injEq] at h
        subst h
        exact .inl ⟨p1, ps, a1, .inr b1, a2, b2, by omega, q⟩
      | _ => simp [q1, q2] at h
theorem in_core {neg b : Bool} {x y : V} {dx dy : D} (R : Rl K ca F m A H) (rx : Rep K ca F m x dx) (ry : Rep K ca F m y dy) (h : inA A dx dy = some b) (q : Q (.bl (if neg then !b else b)) H) : rInAll K neg x y H Q := by
  unfold inA at h
  cases hd : dicAt A dy with
  | some tl =>
    obtain ⟨t, l⟩ := tl
    simp only [hd, inDic] at h
    split at h
    · rename_i hk
      obtain ⟨a, o, e, h1, _, h2, h3⟩ := dic_get R ry rx hd hk
      refine .inr (.inr ⟨a, o, e, h1, ?_⟩)
      have : o.isSome = b := by
        cases h
        cases z : kget l dx with
        | none => rw [h3 z]; rfl
        | some d => obtain ⟨v, e2, _⟩ := h2 d z; rw [e2]; rfl
      rw [this]; exact q
    · cases h
  | none =>
    simp only [hd] at h
    cases ry with
    | str w =>
      simp only [inStr] at h
      cases rx with
      | str z =>
        simp only at h
        split at h
        · rename_i k hz
          cases h
          have : z = ⟨#[k]⟩ := by
            cases z with
            | mk cps => congr; exact Array.toList_inj.mp (by simpa using hz)
          subst this
          exact .inr (.inl ⟨k, w, rfl, rfl, q⟩)
        · cases h
      | _ => cases h
    | non => exact in_data R rx .non h q
    | bl b => exact in_data R rx (.bl b) h q
    | int b => exact in_data R rx (.int b) h q
    | ty b => exact in_data R rx (.ty b) h q
    | tup s r => exact in_data R rx (.tup s r) h q
    | wt s r => exact in_data R rx (.wt s r) h q
    | scr s r => exact in_data R rx (.scr s r) h q
    | ref s => exact in_data R rx (.ref s) h q
    | nm s => exact in_data R rx (.nm s) h q
    | exc s => exact in_data R rx (.exc s) h q
theorem os_in : OpS K ca (rInAll K false) oIn := fun F m A H x y dx dy W σ Q R rx ry p => by
  unfold oIn oB at p
  cases q : inA A dx dy with
  | none => rw [q] at p; exact p.elim
  | some b => rw [q] at p; exact in_core R rx ry q (po_ok R (.bl _) p)
theorem os_notin : OpS K ca (rInAll K true) oNotIn := fun F m A H x y dx dy W σ Q R rx ry p => by
  unfold oNotIn oB at p
  cases q : inA A dx dy with
  | none => simp only [q] at p; exact p.elim
  | some b => simp only [q, Option.map] at p; exact in_core R rx ry q (po_ok R (.bl _) p)
/-! ### stores -/
/-- xs[i] = v, d[k] = v -/
def setIt (A : Hs) (x y v : D) : Option Hs := match x with
  | .ref i => match A[i]? with
    | some (.lst l) => match y with
      | .int k => match ixN l.length k with
        | some n => some (A.set i (.lst (l.set n v)))
        | none => none
      | _ => none
    | some (.dic t false l) => if keyOk t y && decide (l.length < sizeLine) then some (A.set i (.dic t false (kput l y v))) else none
    | _ => none
  | _ => none
/-- o[i] = e: first e, then o, then i -/
def ofH (env : Sl) : Option Hs → RS
  | some A => .nx env A
  | none => .stuck
def sPut (o i a : E) : S := fun env A => ofE env (a env A) fun v A1 => ofE env (o env A1) fun x A2 => ofE env (i env A2) fun y A3 => ofH env (setIt A3 x y v)
theorem set_lst {x y v : V} {dy dv : D} {i : Nat} {l : List D} (R : Rl K ca F m A H) (rx : Rep K ca F m x (.ref i)) (ry : Rep K ca F m y dy) (rv : Rep K ca F m v dv) (hA : A[i]? = some (.lst l)) (h : setIt A (.ref i) dy dv = some A2) {Dn : Ends} {f : Hp → Prop}
    (k : ∀ H2, Rl K ca F m A2 H2 → Stp F m H F m H2 → f H2) : rSetL x y v H f := by
  unfold setIt at h
  simp only [hA] at h
  cases ry with
  | int j =>
    simp only at h
    cases q : ixN l.length j with
    | none => rw [q] at h; cases h
    | some n =>
      rw [q] at h; cases h
      obtain ⟨a, vs, e, h1, h2, h3⟩ := lst_at R rx hA
      obtain ⟨R2, g2⟩ := lst_put R h1 h2 (h3.set rv n)
      exact ⟨a, vs, j, n, e, rfl, h2, by rw [h3.length]; exact q, k _ R2 g2⟩
  | _ => cases h
theorem set_dic {x y v : V} {dy dv : D} {i : Nat} {t : Bool} {l : List (D × D)} (R : Rl K ca F m A H) (rx : Rep K ca F m x (.ref i)) (ry : Rep K ca F m y dy) (rv : Rep K ca F m v dv) (hA : A[i]? = some (.dic t false l)) (h : setIt A (.ref i) dy dv = some A2) :
    ∃ a H2, x = .ref a ∧ DPut H a y v H2 ∧ Rl K ca F m A2 H2 ∧ Stp F m H F m H2 := by
  unfold setIt at h
  simp only [hA] at h
  split at h
  · rename_i hk
    cases h
    rw [Bool.and_eq_true, decide_eq_true_eq] at hk
    obtain ⟨a, e, ha, r⟩ := R.at hA rx
    cases t with
    | false =>
      obtain ⟨kvs, h1, h2⟩ := r
      cases z : keyK dy with
      | none => simp [keyOk, z] at hk
      | some kk =>
        have e2 := keyK_kD z
        subst e2
        have e3 : y = kV kk := by
          cases kk with
          | inl i => cases ry; rfl
          | inr x => cases ry; rfl
        have h1' : H a = some (.dK kvs) := h1
        obtain ⟨R2, g2⟩ := R.put (u := .dK (putK kvs kk v)) (o' := .dic false false (kput l (kD kk) dv)) ha (fun od w z => by rw [h1'] at z; cases z) ⟨_, upd_same, kput_rep keq_kD rv h2⟩
        exact ⟨a, _, e, .inl ⟨kvs, kk, h1, e3, by rw [h2.length]; exact hk.2, rfl⟩, R2, g2⟩
    | true =>
      obtain ⟨kvs, h1, h2⟩ := r
      cases dy with
      | tup dl =>
          cases z : keysK dl with
        | none => simp [keyOk, z] at hk
        | some ks =>
          obtain ⟨b, e3, h3⟩ := tup_key R ry z
          have e2 := keysK_kT z
          subst e2
          have h1' : H a = some (.dT kvs) := h1
          obtain ⟨R2, g2⟩ := R.put (u := .dT (putK kvs ks v)) (o' := .dic true false (kput l (kT ks) dv)) ha (fun od w z => by rw [h1'] at z; cases z) ⟨_, upd_same, kput_rep keq_kT rv h2⟩
          exact ⟨a, _, e, .inr ⟨kvs, ks, b, h1, e3, h3, by rw [h2.length]; exact hk.2, rfl⟩, R2, g2⟩
      | _ => simp [keyOk] at hk
  · cases h
end
end SM

namespace SM
open PySem L2
open DL (Ex ExK rLenU rAbs rMax2 rMin2 rInt1 rListOf rTupleOf iSeqU rIsiU InC)
section
variable {K : PySem.W.Frag} {ca : CaT} {F F1 F2 H H1 H2 : Hp} {m m1 m2 : List Addr} {A A1 A2 : Hs} {σ : L2.St} {env : Sl} {W : WX} {Q : VK}
variable {ta tb tc te to ti : TE} {a b c o : E} {i : Nat} {d : D} {ts : TA} {as : As} {x : V} {dx : D} {t u : TS} {f g h : S}
/-! ### o[i] = e -/
theorem SimS.pick (h1 : SimS K ca W t g) (h2 : SimS K ca W u h) (k : ∀ env A, f env A = g env A ∨ f env A = h env A) : SimS K ca W (fun D σ H => t D σ H ∨ u D σ H) f := fun F m A σ H env Dn R S p => by
  rcases k env A with q | q
  · rw [q] at p; exact .inl (h1 F m A σ H env Dn R S p)
  · rw [q] at p; exact .inr (h2 F m A σ H env Dn R S p)
def isLst (A : Hs) : D → Bool
  | .ref i => match A[i]? with
    | some (.lst _) => true
    | _ => false
  | _ => false
def sPut1 (w : Bool) (o i a : E) : S := fun env A => ofE env (a env A) fun v A1 => ofE env (o env A1) fun x A2 => ofE env (i env A2) fun y A3 => if isLst A3 x = w then ofH env (setIt A3 x y v) else .stuck
theorem put_pick {o i a : E} (env : Sl) (A : Hs) : sPut o i a env A = sPut1 true o i a env A ∨ sPut o i a env A = sPut1 false o i a env A := by
  unfold sPut sPut1
  cases a env A with
  | stuck => exact .inl rfl
  | exc _ _ => exact .inl rfl
  | ok v A1 =>
    simp only [ofE]
    cases o env A1 with
    | stuck => exact .inl rfl
    | exc _ _ => exact .inl rfl
    | ok x A2 =>
      simp only [ofE]
      cases i env A2 with
      | stuck => exact .inl rfl
      | exc _ _ => exact .inl rfl
      | ok y A3 =>
        simp only [ofE]
        cases q : isLst A3 x with
        | true => exact .inl (by simp)
        | false => exact .inr (by simp)
theorem isLst_at {A : Hs} {x : D} {w : Bool} (h : isLst A x = true) : ∃ i l, x = .ref i ∧ A[i]? = some (.lst l) := by
  cases x with
  | ref i =>
    unfold isLst at h
    cases q : A[i]? with
    | none => simp [q] at h
    | some o =>
      cases o with
      | lst l => exact ⟨i, l, rfl, q⟩
      | dic _ _ _ => simp [q] at h
      | obj _ _ => simp [q] at h
      | nd _ => simp [q] at h
  | _ => cases h
theorem setIt_dic {A A2 : Hs} {x y v : D} (h : setIt A x y v = some A2) (n : isLst A x = false) : ∃ i t l, x = .ref i ∧ A[i]? = some (.dic t false l) := by
  unfold setIt at h
  cases x with
  | ref i =>
    unfold isLst at n
    cases q : A[i]? with
    | none => simp [q] at h
    | some o =>
      cases o with
      | lst l => simp [q] at n
      | dic t lk l =>
        cases lk with
        | false => exact ⟨i, t, l, rfl, q⟩
        | true => simp [q] at h
      | obj _ _ => simp [q] at h
      | nd _ => simp [q] at h
  | _ => simp at h
theorem ss_putL (ho : SimE K ca W to o) (hi : SimE K ca W ti b) (ha : SimE K ca W ta a) : SimS K ca W (tAsg ta (gSub to ti rSetL)) (sPut1 true o b a) := fun F m A σ H env Dn R S p =>
  ofE_bind ha R S p fun F1 m1 A1 H1 v dv R1 g1 S1 rv p1 => ofE_bind ho R1 S1 p1 fun F2 m2 A2 H2 x dx R2 g2 S2 rx p2 => ofE_bind hi R2 S2 p2 fun F3 m3 A3 H3 y dy R3 g3 S3 ry p3 => by
    split at p3
    · rename_i hl
      cases hs : setIt A3 dx dy dv with
      | none => rw [hs] at p3; exact p3.elim
      | some A4 =>
        rw [hs] at p3
        obtain ⟨j, l, rfl, hA⟩ := isLst_at (w := true) hl
        exact set_lst (Dn := Dn) R3 (rx.mono g3.ff g3.mm) ry (rv.mono (g2.trans g3).ff (g2.trans g3).mm) hA hs fun H4 R4 g4 => p3 F3 m3 σ H4 R4 g4 (S3.stp g4)
    · exact p3.elim
theorem ss_putD (ho : SimE K ca W to o) (hi : SimE K ca W ti b) (ha : SimE K ca W ta a) : SimS K ca W (sDPut to ti ta) (sPut1 false o b a) := fun F m A σ H env Dn R S p =>
  ofE_bind ha R S p fun F1 m1 A1 H1 v dv R1 g1 S1 rv p1 => ofE_bind ho R1 S1 p1 fun F2 m2 A2 H2 x dx R2 g2 S2 rx p2 => ofE_bind hi R2 S2 p2 fun F3 m3 A3 H3 y dy R3 g3 S3 ry p3 => by
    split at p3
    · rename_i hl
      cases hs : setIt A3 dx dy dv with
      | none => rw [hs] at p3; exact p3.elim
      | some A4 =>
        rw [hs] at p3
        obtain ⟨j, t, l, rfl, hA⟩ := setIt_dic hs hl
        obtain ⟨a', H4, e, h1, R4, g4⟩ := set_dic R3 (rx.mono g3.ff g3.mm) ry (rv.mono (g2.trans g3).ff (g2.trans g3).mm) hA hs
        exact ⟨a', H4, e, h1, p3 F3 m3 σ H4 R4 g4 (S3.stp g4)⟩
    · exact p3.elim
theorem ss_put (ho : SimE K ca W to o) (hi : SimE K ca W ti b) (ha : SimE K ca W ta a) : SimS K ca W (fun D σ H => tAsg ta (gSub to ti rSetL) D σ H ∨ sDPut to ti ta D σ H) (sPut o b a) := SimS.pick (ss_putL ho hi ha) (ss_putD ho hi ha) put_pick
/-! ### built-ins -/
def c1 (f : D → Hs → RE D) : List D → Hs → RE D := fun ds A => match ds with
  | [d] => f d A
  | _ => .stuck
def c2 (f : D → D → Hs → RE D) : List D → Hs → RE D := fun ds A => match ds with
  | [d, e] => f d e A
  | _ => .stuck
theorem cs_1 {r : List V → Hp → VK → Prop} {f : D → Hs → RE D} (h : ∀ F m A H x dx W σ Q, Rl K ca F m A H → Rep K ca F m x dx → Po K ca (Rep K ca) F m H W σ Q (f dx A) → r [x] H Q) : CbS K ca r (c1 f) := fun F m A H xs ds W σ Q R rs p => by
  match ds, xs, rs, p with
  | [d], _, .cons r1 .nil, p => exact h F m A H _ d W σ Q R r1 p
  | [], _, _, p => exact p.elim
  | _ :: _ :: _, _, _, p => exact p.elim
theorem cs_2 {r : List V → Hp → VK → Prop} {f : D → D → Hs → RE D} (h : ∀ F m A H x y dx dy W σ Q, Rl K ca F m A H → Rep K ca F m x dx → Rep K ca F m y dy → Po K ca (Rep K ca) F m H W σ Q (f dx dy A) → r [x, y] H Q) : CbS K ca r (c2 f) := fun F m A H xs ds W σ Q R rs p => by
  match ds, xs, rs, p with
  | [d, e], _, .cons r1 (.cons r2 .nil), p => exact h F m A H _ _ d e W σ Q R r1 r2 p
  | [], _, _, p => exact p.elim
  | [_], _, _, p => exact p.elim
  | _ :: _ :: _ :: _, _, _, p => exact p.elim
def lenA (A : Hs) (x : D) : Option Nat := match seqL A x with
  | some l => some l.length
  | none => match seqT x with
    | some l => some l.length
    | none => match x with
      | .str z => if z.length ≤ sizeLine then some z.length else none
      | .ref i => match A[i]? with
        | some (.dic false false l) => some l.length
        | _ => none
      | _ => none
def oLen (x : D) (A : Hs) : RE D := match lenA A x with
  | some n => .ok (.int (n : Int)) A
  | none => .stuck
theorem cs_len : CbS K ca (rLenU K) (c1 oLen) := cs_1 fun F m A H x dx W σ Q R rx p => by
  unfold oLen at p
  cases q : lenA A dx with
  | none => rw [q] at p; exact p.elim
  | some n =>
    rw [q] at p
    have hq := po_ok R (Rep.int _) p
    unfold lenA at q
    split at q
    · rename_i l hl
      cases q
      obtain ⟨a, vs, e, h1, h2⟩ := seqL_at R rx hl
      subst e
      exact .inl ⟨_, l.length, rfl, .inl ⟨vs, h1, h2.length.symm⟩, hq⟩
    · split at q
      · rename_i l hl
        cases q
        obtain ⟨a, vs, e, h1, h2⟩ := seqT_at R rx hl
        subst e
        exact .inl ⟨_, l.length, rfl, .inr ⟨vs, h1, h2.length.symm⟩, hq⟩
      · cases rx with
        | str z =>
          simp only at q
          split at q
          · rename_i hz; cases q; exact .inl ⟨_, _, rfl, ⟨hz, rfl⟩, hq⟩
          · cases q
        | ref hm =>
          simp only at q
          split at q
          · rename_i l hA
            cases q
            obtain ⟨a, e, ha, kvs, h1, h2⟩ := R.at hA (.ref hm)
            refine .inr ⟨a, kvs, by rw [e], h1, ?_⟩
            rw [h2.length]; exact hq
          · cases q
        | _ => cases q
def boolsOf : List D → Option (List Bool)
  | [] => some []
  | .bl b :: r => (boolsOf r).map (b :: ·)
  | _ :: _ => none
def intsOf : List D → Option (List Int)
  | [] => some []
  | .int b :: r => (intsOf r).map (b :: ·)
  | _ :: _ => none
theorem boolsOf_eq : ∀ {l : List D} {bs : List Bool}, boolsOf l = some bs → l = bs.map D.bl
  | [], _, h => by cases h; rfl
  | d :: r, bs, h => by
    cases d with
    | bl b =>
      unfold boolsOf at h
      cases q : boolsOf r with
      | none => rw [q] at h; cases h
      | some s => rw [q] at h; cases h; rw [List.map_cons, ← boolsOf_eq q]
    | _ => cases h
theorem intsOf_eq : ∀ {l : List D} {bs : List Int}, intsOf l = some bs → l = bs.map D.int
  | [], _, h => by cases h; rfl
  | d :: r, bs, h => by
    cases d with
    | int b =>
      unfold intsOf at h
      cases q : intsOf r with
      | none => rw [q] at h; cases h
      | some s => rw [q] at h; cases h; rw [List.map_cons, ← intsOf_eq q]
    | _ => cases h
theorem z02 : ∀ bs : List Bool, boolsOf (bs.map D.bl) = some bs
  | [] => rfl
  | b :: r => by rw [List.map_cons]; unfold boolsOf; rw [z02 r]; rfl
theorem z0l : ∀ bs : List Int, intsOf (bs.map D.int) = some bs
  | [] => rfl
  | b :: r => by rw [List.map_cons]; unfold intsOf; rw [z0l r]; rfl
def oAll (x : D) (A : Hs) : RE D := match (seqL A x).bind boolsOf with
  | some bs => .ok (.bl (bs.all id)) A
  | none => .stuck
def oSum (x : D) (A : Hs) : RE D := match (seqL A x).bind intsOf with
  | some ns => .ok (.int ns.sum) A
  | none => .stuck
theorem cs_all : CbS K ca (L2.rAll K) (c1 oAll) := cs_1 fun F m A H x dx W σ Q R rx p => by
  unfold oAll at p
  split at p
  · rename_i bs hb
    obtain ⟨l, h1, h2⟩ := Option.bind_eq_some_iff.mp hb
    obtain ⟨a, vs, e, h3, h4⟩ := seqL_at R rx h1
    have e2 := boolsOf_eq h2
    subst e2
    have e3 := h4.bools
    subst e3 e
    exact ⟨a, bs, rfl, h3, po_ok R (.bl _) p⟩
  · exact p.elim
def oMax2 := oII fun i j => some (.int (if j > i then j else i))
def oMin2 := oII fun i j => some (.int (if j < i then j else i))
theorem cs_max2 : CbS K ca rMax2 (c2 oMax2) := cs_2 fun F m A H x y dx dy W σ Q R rx ry p => by
  cases rx with
  | int i =>
    cases ry with
    | int j => exact ⟨i, j, rfl, po_ok R (.int _) p⟩
    | _ => exact p.elim
  | _ => exact p.elim
theorem cs_min2 : CbS K ca rMin2 (c2 oMin2) := cs_2 fun F m A H x y dx dy W σ Q R rx ry p => by
  cases rx with
  | int i =>
    cases ry with
    | int j => exact ⟨i, j, rfl, po_ok R (.int _) p⟩
    | _ => exact p.elim
  | _ => exact p.elim
def oInt (x : D) (A : Hs) : RE D := match x with
  | .int i => .ok (.int i) A
  | .bl b => .ok (.int (if b then 1 else 0)) A
  | _ => .stuck
def oList (x : D) (A : Hs) : RE D := match seqL A x with
  | some l => alloc A (.lst l)
  | none => match seqT x with
    | some l => alloc A (.lst l)
    | none => .stuck
theorem cs_list : CbS K ca (rListOf K) (c1 oList) := cs_1 fun F m A H x dx W σ Q R rx p => by
  unfold oList at p
  split at p
  · rename_i l hl
    obtain ⟨a, vs, e, h3, h4⟩ := seqL_at R rx hl
    subst e
    exact ⟨a, vs, rfl, .inl h3, fun q hq => po_alloc (o := .lst l) R hq ⟨vs, upd_same, h4.mono (Ex.refl _) ⟨_, rfl⟩⟩ p⟩
  · split at p
    · rename_i l hl
      obtain ⟨a, vs, e, h3, h4⟩ := seqT_at R rx hl
      subst e
      exact ⟨a, vs, rfl, .inr h3, fun q hq => po_alloc (o := .lst l) R hq ⟨vs, upd_same, h4.mono (Ex.refl _) ⟨_, rfl⟩⟩ p⟩
    · exact p.elim
def oTuple (x : D) (A : Hs) : RE D := match seqL A x with
  | some l => .ok (.tup l) A
  | none => match x with
    | .tup l => .ok (.tup l) A
    | _ => .stuck
theorem cs_tuple : CbS K ca (rTupleOf K) (c1 oTuple) := cs_1 fun F m A H x dx W σ Q R rx p => by
  unfold oTuple at p
  split at p
  · rename_i l hl
    obtain ⟨a, vs, e, h3, h4⟩ := seqL_at R rx hl
    subst e
    refine ⟨a, vs, rfl, .inl ⟨h3, fun q hq => ?_⟩⟩
    obtain ⟨R2, g2⟩ := R.new (u := .tup vs) hq
    exact p _ _ _ _ R2 g2 (.tup upd_same (h4.mono g2.ff g2.mm))
  · cases rx with
    | tup s rs => exact ⟨_, _, rfl, .inr ⟨.inl (.inl (R.fh _ _ s)), po_ok R (.tup s rs) p⟩⟩
    | _ => exact p.elim
/-! ### isinstance -/
/-- the class that a thing is of; os, xs: own classes, own exceptions at hand -/
def kdOf (os xs : List String) (A : Hs) : D → Option String
  | .non => some "NoneType"
  | .bl _ => some "bool"
  | .int _ => some "int"
  | .str _ => some "str"
  | .tup _ => some "tuple"
  | .scr _ => none
  | .exc C => if C ∈ xs then some C else none
  | .ref i => match A[i]? with
    | some (.lst _) => some "list"
    | some (.dic t lk _) => if t && lk then none else some "dict"
    | some (.obj C _) => if C ∈ os then some C else none
    | some (.nd _) => none
    | none => none
  | _ => none
def btn (n : String) : Bool := n == "NoneType" || n == "bool" || n == "int" || n == "str" || n == "tuple" || n == "list" || n == "dict" || n == "ValueError"
def clOf : D → Option String
  | .ty n => if btn n then some n else none
  | .nm C => if btn C then none else some C
  | _ => none
/-- a name's class object -/
def vOf (ca : CaT) (n : String) : Value := if btn n then .type n else .ref (ca n)
def subB (n c : String) : Bool := n == c || n == "bool" && c == "int"
/-- is the class n one of c: by the built-in ones, else by a table -/
def isiOf (tb : List (String × String × Bool)) (n c : String) : Option Bool := if btn n && btn c && n != "ValueError" then some (subB n c) else (tb.find? fun e => e.1 == n && e.2.1 == c).map (·.2.2)
/-- one of some classes -/
def isiAny (tb : List (String × String × Bool)) (n : String) : List D → Option Bool
  | [] => some false
  | c :: r => match clOf c with
    | some k => match isiOf tb n k with
      | some true => some true
      | some false => isiAny tb n r
      | none => none
    | none => none
def isiAll : List D → Bool
  | [] => true
  | c :: r => (clOf c).isSome && isiAll r
def isiD (os xs : List String) (tb : List (String × String × Bool)) (A : Hs) (x c : D) : Option Bool := match kdOf os xs A x with
  | none => none
  | some n => match c with
    | .tup l => if isiAll l then isiAny tb n l else none
    | c => match clOf c with
      | some k => isiOf tb n k
      | none => none
def oIsi (os xs : List String) (tb : List (String × String × Bool)) (x c : D) (A : Hs) : RE D := match isiD os xs tb A x c with
  | some b => .ok (.bl b) A
  | none => .stuck
inductive TbOk (K : PySem.W.Frag) (ca : CaT) : List (String × String × Bool) → Prop
  | nil : TbOk K ca []
  | cons {n c : String} {b : Bool} {r : List (String × String × Bool)} : PySem.W.kitOne K (vOf ca n) (vOf ca c) = some b → TbOk K ca r → TbOk K ca ((n, c, b) :: r)
theorem TbOk.of {tb : List (String × String × Bool)} (h : TbOk K ca tb) {n c : String} {b : Bool} (q : (tb.find? fun e => e.1 == n && e.2.1 == c).map (·.2.2) = some b) : PySem.W.kitOne K (vOf ca n) (vOf ca c) = some b := by
  induction h with
  | nil => cases q
  | cons h1 h2 ih =>
    rename_i n' c' b' r
    rw [List.find?_cons] at q
    cases z : (n' == n && c' == c) with
    | true =>
      simp only [z] at q
      cases q
      rw [Bool.and_eq_true] at z
      rw [← eq_of_beq z.1, ← eq_of_beq z.2]; exact h1
    | false => simp only [z] at q; exact ih q
def btns : List String := ["NoneType", "bool", "int", "str", "tuple", "list", "dict", "ValueError"]
theorem btn_mem {n : String} (h : btn n = true) : n ∈ btns := by
  simp only [btn, Bool.or_eq_true, beq_iff_eq] at h
  simp only [btns, List.mem_cons, List.mem_nil_iff, or_false]
  rcases h with ((((((h | h) | h) | h) | h) | h) | h) | h <;> simp [h]
theorem isi_all : ∀ n ∈ btns, ∀ c ∈ btns, (n != "ValueError") = true → kitB n c = some (subB n c) := by decide +kernel
theorem isi_sub {n c : String} (h1 : btn n = true) (h2 : btn c = true) (h3 : (n != "ValueError") = true) : kitB n c = some (subB n c) := isi_all n (btn_mem h1) c (btn_mem h2) h3
theorem isi_of {tb : List (String × String × Bool)} (h : TbOk K ca tb) {n c : String} {b : Bool} (q : isiOf tb n c = some b) : PySem.W.kitOne K (vOf ca n) (vOf ca c) = some b := by
  unfold isiOf at q
  split at q
  · rename_i z
    rw [Bool.and_eq_true, Bool.and_eq_true] at z
    cases q
    unfold vOf
    rw [if_pos z.1.1, if_pos z.1.2]
    exact kit_ty (isi_sub z.1.1 z.1.2 z.2)
  · exact h.of q
theorem cl_at {y : V} {dy : D} {k : String} (r : Rep K ca F m y dy) (h : clOf dy = some k) : ClsV y (vOf ca k) := by
  cases r with
  | ty n =>
    unfold clOf at h
    simp only at h
    split at h
    · rename_i z; cases h; unfold vOf; rw [if_pos z]; exact .ty _
    · cases h
  | nm C =>
    unfold clOf at h
    simp only at h
    split at h
    · cases h
    · rename_i z; cases h; unfold vOf; rw [if_neg z]; exact .own _
  | _ => cases h
/-- how isinstance sees a thing -/
inductive Sees (K : PySem.W.Frag) (H : Hp) (x : V) (u : Value) : Prop
  | ty : TyX K H x u → Sees K H x u
  | exc {a C : Addr} : x = .ref a → u = .ref C → H a = some (ExK C a) → ExcC K C → Sees K H x u
theorem sees_of {os xs : List String} {x : V} {n : String} (ho : AllC (fun C => InC K (ca C) ∧ btn C = false) os) (hx : AllC (fun C => ExcC K (ca C) ∧ btn C = false) xs) (R : Rl K ca F m A H) (rx : Rep K ca F m x dx) (h : kdOf os xs A dx = some n) : Sees K H x (vOf ca n) := by
  cases rx with
  | non => cases h; exact .ty (.base .non)
  | bl b => cases h; exact .ty (.base (.bl b))
  | int b => cases h; exact .ty (.base (.int b))
  | str b => cases h; exact .ty (.base (.str b))
  | tup s r => cases h; exact .ty (.base (.tup (R.fh _ _ s)))
  | exc s =>
    rename_i a C
    unfold kdOf at h
    simp only at h
    split at h
    · rename_i z; cases h
      have k := AllC.of hx z
      refine .exc rfl ?_ (R.fh _ _ s) k.1
      unfold vOf; rw [k.2]; rfl
    · cases h
  | ref hm =>
    unfold kdOf at h
    simp only at h
    split at h
    · rename_i l hA
      cases h
      obtain ⟨a, vs, e, h1, h2, h3⟩ := lst_at R (.ref hm) hA
      rw [e]
      exact .ty (.base (.lst h2))
    · rename_i t lk l hA
      split at h
      · cases h
      · rename_i z
        cases h
        obtain ⟨a, e, ha, r⟩ := R.at hA (.ref hm)
        rw [e]
        cases t with
        | false =>
          obtain ⟨kvs, h1, _⟩ := r
          cases lk with
          | false => exact .ty (.base (.dK h1))
          | true => obtain ⟨od, h1⟩ := h1; exact .ty (.fDict h1)
        | true =>
          obtain ⟨kvs, h1, _⟩ := r
          cases lk with
          | false => exact .ty (.base (.dT h1))
          | true => exact absurd rfl z
    · rename_i C fs hA
      split at h
      · rename_i z
        cases h
        obtain ⟨a, e, ha, dxx, kvs, h1, _⟩ := R.at hA (.ref hm)
        rw [e]
        have k := AllC.of ho z
        have i := k.1
        refine .ty (.base ?_)
        unfold vOf
        rw [k.2]
        exact .ins h1 i.cl i.ha i.hn i.ht i.hm
      · cases h
    · cases h
    · cases h
  | _ => cases h
theorem isiAny_kit {tb : List (String × String × Bool)} (ht : TbOk K ca tb) {n : String} : ∀ {vs : List V} {l : List D} {b : Bool}, RepL K ca F m vs l → isiAll l = true → isiAny tb n l = some b → ∃ us, Paired ClsV vs us ∧ PySem.W.kitAny K (vOf ca n) us = some b
  | _, _, _, .nil, _, h => by cases h; exact ⟨[], .nil, kitAny_nil⟩
  | _, _, _, .cons r rs, ha, h => by
    unfold isiAll at ha
    rw [Bool.and_eq_true] at ha
    unfold isiAny at h
    cases q : clOf _ with
    | none => rw [q] at h; cases h
    | some k =>
      rw [q] at h
      simp only at h
      cases q2 : isiOf tb n k with
      | none => rw [q2] at h; cases h
      | some c =>
        rw [q2] at h
        have k1 := isi_of ht q2
        cases c with
        | true =>
          cases h
          -- the rest only has to be classes
          have rest : ∀ {vs : List V} {l : List D}, RepL K ca F m vs l → isiAll l = true → ∃ us, Paired ClsV vs us := by
            intro vs l
            induction l generalizing vs with
            | nil => intro r _; cases r; exact ⟨[], .nil⟩
            | cons d l ih =>
              intro r hl
              cases r with
              | cons r1 r2 =>
                unfold isiAll at hl
                rw [Bool.and_eq_true] at hl
                obtain ⟨us, hus⟩ := ih r2 hl.2
                cases z : clOf d with
                | none => rw [z] at hl; cases hl.1
                | some kk => exact ⟨_ :: us, .cons (cl_at r1 z) hus⟩
          obtain ⟨us, hus⟩ := rest rs ha.2
          exact ⟨_ :: us, .cons (cl_at r q) hus, kitAny_cons k1 (fun z => by cases z) fun _ => rfl⟩
        | false =>
          obtain ⟨us, h1, h2⟩ := isiAny_kit ht rs ha.2 h
          exact ⟨_ :: us, .cons (cl_at r q) h1, kitAny_cons k1 (fun _ => h2) fun z => by cases z⟩
/-- isinstance(x, c) -/
theorem cs_isi {os xs : List String} {tb : List (String × String × Bool)} (ho : AllC (fun C => InC K (ca C) ∧ btn C = false) os) (hx : AllC (fun C => ExcC K (ca C) ∧ btn C = false) xs) (ht : TbOk K ca tb) : CbS K ca (rIsiU K) (c2 (oIsi os xs tb)) := cs_2 fun F m A H x y dx dy W σ Q R rx ry p => by
  unfold oIsi at p
  cases q : isiD os xs tb A dx dy with
  | none => rw [q] at p; exact p.elim
  | some b =>
    rw [q] at p
    have hq := po_ok R (Rep.bl _) p
    unfold isiD at q
    cases z : kdOf os xs A dx with
    | none => rw [z] at q; cases q
    | some n =>
      rw [z] at q
      have sees := sees_of ho hx R rx z
      have one : ∀ k, clOf dy = some k → isiOf tb n k = some b → rIsiU K [x, y] H Q := fun k h1 h2 => by
        have kit := isi_of ht h2
        have cl := cl_at ry h1
        cases sees with
        | ty t => exact .inl ⟨x, y, _, _, b, rfl, cl, t, kit, hq⟩
        | exc e1 e2 e3 e4 =>
          subst e1
          rw [e2] at kit
          exact .inr (.inr (.inl ⟨_, _, y, _, b, rfl, e3, e4, cl, kit, hq⟩))
      cases ry with
      | tup s rs =>
        simp only at q
        split at q
        · rename_i ha
          obtain ⟨us, h1, h2⟩ := isiAny_kit ht rs ha q
          cases sees with
          | ty t => exact .inr (.inl ⟨x, _, _, _, us, b, rfl, R.fh _ _ s, h1, t, h2, hq⟩)
          | exc e1 e2 e3 e4 =>
            subst e1
            rw [e2] at h2
            exact .inr (.inr (.inr ⟨_, _, _, _, us, b, rfl, e3, e4, R.fh _ _ s, h1, h2, hq⟩))
        · cases q
      | ty n' =>
        simp only at q
        split at q
        · rename_i k hk; exact one k hk q
        · cases q
      | nm n' =>
        simp only at q
        split at q
        · rename_i k hk; exact one k hk q
        · cases q
      | _ => simp [clOf] at q
end
end SM

namespace L2
open PySem PySem.Spec PyProof.Rows
end L2
namespace SM
open PySem L2
open DL (Ex ExK rInt1 iSeqU rng rngC rng_len rngC_len rng_get rngC_get enumD enumD_len enumD_get zipD)
section
variable {K : PySem.W.Frag} {ca : CaT} {F F1 F2 H H1 H2 : Hp} {m m1 m2 : List Addr} {A A1 A2 : Hs} {σ : L2.St} {env : Sl} {W : WX} {Q : VK}
variable {ta tb tc te to ti : TE} {a b c o : E} {i : Nat} {d : D} {ts : TA} {as : As} {x : V} {dx : D}
/-! ### what is walked -/
theorem SimI.pick {t u : TI} {f g h : Sl → Hs → RE Wk} (h1 : SimI K ca W t g) (h2 : SimI K ca W u h) (k : ∀ env A, f env A = g env A ∨ f env A = h env A) : SimI K ca W (fun σ H R => t σ H R ∨ u σ H R) f := fun F m A σ H env Q R S p => by
  rcases k env A with q | q
  · rw [q] at p; exact .inl (h1 F m A σ H env Q R S p)
  · rw [q] at p; exact .inr (h2 F m A σ H env Q R S p)
def tt : Hs → Prop := fun _ => True
/-- the signs of a text -/
def signsOf (z : Str) : List D := z.cps.toList.map fun c => .str ⟨#[c]⟩
def wkL (A : Hs) (x : D) : Option Wk := match x with
  | .ref i => match A[i]? with
    | some (.lst l) => some ⟨l, fun A' => A'[i]? = some (.lst l)⟩
    | _ => none
  | .scr l => some ⟨l, tt⟩
  | _ => none
def wkT (_ : Hs) (x : D) : Option Wk := match x with
  | .tup l => some ⟨l, tt⟩
  | .wt l => some ⟨l, tt⟩
  | _ => none
def wkS (_ : Hs) (x : D) : Option Wk := match x with
  | .str z => some ⟨signsOf z, tt⟩
  | _ => none
/-- a list, a tuple, a text -/
def wkA (A : Hs) (x : D) : Option Wk := match x with
  | .ref _ => wkL A x
  | .scr _ => wkL A x
  | .tup _ => wkT A x
  | .wt _ => wkT A x
  | _ => wkS A x
def wOf (f : Hs → D → Option Wk) (a : E) : Sl → Hs → RE Wk := fun env A => (a env A).bind fun x A1 => match f A1 x with
  | some k => .ok k A1
  | none => .stuck
def wSeq (a : E) : Sl → Hs → RE Wk := wOf wkA a
theorem wOf_bind {f : Hs → D → Option Wk} {R' : It → Hp → Prop} {T : VK} (h : SimE K ca W te a) (R : Rl K ca F m A H) (S : Slt K ca F m σ env) (p : PoW K ca F m H W σ R' (wOf f a env A))
    (k : ∀ F1 m1 A1 H1 x d kk, Rl K ca F1 m1 A1 H1 → Rep K ca F1 m1 x d → f A1 d = some kk → PoW K ca F1 m1 H1 W σ R' (.ok kk A1) → T x H1) : te σ H T := by
  refine h F m A σ H env T R S ?_
  unfold wOf at p
  cases q : a env A with
  | ok d A1 =>
    rw [q] at p
    intro v F1 m1 H1 R1 g1 r
    simp only [RE.bind] at p
    cases z : f A1 d with
    | none => rw [z] at p; exact p.elim
    | some kk =>
      rw [z] at p
      exact k F1 m1 A1 H1 v d kk R1 r z fun J F' m' H' R2 g2 hh => p J F' m' H' R2 (g1.trans g2) hh
  | exc C A1 => rw [q] at p; exact p
  | stuck => rw [q] at p; exact p
/-- the list at a, as it is at each turn -/
theorem walk_live {a : Addr} {n : Nat} : Walk (Itl K a) n (fun H => ∃ vs, SqL K H a vs ∧ vs.length = n) (fun i H x H' => H' = H ∧ ∀ xs, SqL K H a xs → xs[i]? = some x) :=
  ⟨fun i _ hi ⟨vs, q, e⟩ => ⟨vs, vs[i]'(by omega), q, by simp [show i < vs.length by omega]⟩, fun _ ⟨vs, q, e⟩ => ⟨vs, q, by omega⟩, fun _ _ _ _ _ _ y => y⟩
theorem sw_list (h : SimE K ca W te a) : SimI K ca W (iList K te) (wOf wkL a) := fun F m A σ H env Q R S p => wOf_bind h R S p fun F1 m1 A1 H1 x d kk R1 r hk p1 => by
  cases r with
  | ref hm =>
    rename_i aa i
    unfold wkL at hk
    simp only at hk
    cases hA : A1[i]? with
    | none => simp [hA] at hk
    | some o =>
      cases o with
      | lst l =>
        simp only [hA, Option.some.injEq] at hk
        subst hk
        obtain ⟨a', vs, e, h1, h2, h3⟩ := lst_at R1 (.ref hm) hA
        cases e
        refine ⟨aa, rfl, ⟨vs, .inl (.inl h2)⟩, p1 _ F1 m1 H1 R1 Stp.refl ⟨_, _, walk_live, fun F2 m2 A2 H2 hg R2 g2 => ?_, fun i' d' x' F2 m2 A2 H2 H3 e hg R2 g2 y => .inl ⟨y.1, ?_⟩⟩⟩
        · obtain ⟨a2, vs2, e2, _, h4, h5⟩ := lst_at R2 (.ref (g2.mm.get h1)) hg
          cases e2
          exact ⟨vs2, .inl (.inl h4), h5.length⟩
        · obtain ⟨a2, vs2, e2, _, h4, h5⟩ := lst_at R2 (.ref (g2.mm.get h1)) hg
          cases e2
          obtain ⟨z, z1, z2⟩ := h5.get e
          have := y.2 vs2 (.inl (.inl h4))
          rw [z1] at this; cases this; exact z2
      | dic _ _ _ => simp [hA] at hk
      | obj _ _ => simp [hA] at hk
      | nd _ => simp [hA] at hk
  | scr s rs =>
    cases hk
    refine ⟨_, rfl, ⟨_, R1.fh.l s⟩, p1 _ F1 m1 H1 R1 Stp.refl ⟨_, _, walk_live, fun F2 m2 A2 H2 hg R2 g2 => ⟨_, R2.fh.l (g2.ff.l s), rs.length⟩, fun i' d' x' F2 m2 A2 H2 H3 e hg R2 g2 y => .inl ⟨y.1, ?_⟩⟩⟩
    obtain ⟨z, z1, z2⟩ := rs.get e
    have := y.2 _ (R2.fh.l (g2.ff.l s))
    rw [z1] at this; cases this; exact z2.mono g2.ff g2.mm
  | _ => cases hk
theorem sw_tup (h : SimE K ca W te a) : SimI K ca W (iTup K te) (wOf wkT a) := fun F m A σ H env Q R S p => wOf_bind h R S p fun F1 m1 A1 H1 x d kk R1 r hk p1 => by
  have main : ∀ {aa : Addr} {vs : List V} {l : List D}, SqT K F1 aa vs → RepL K ca F1 m1 vs l → kk = ⟨l, tt⟩ → x = .ref aa → ∃ a, x = .ref a ∧ (∃ xs, SqT K H1 a xs) ∧ Q (Itt K a) H1 := fun {aa vs l} s rs e ex => by
    subst e
    refine ⟨aa, ex, ⟨vs, R1.fh.t s⟩, p1 _ F1 m1 H1 R1 Stp.refl ⟨fun H => SqT K H aa vs, YAt vs, by rw [show (Wk.mk l _).ds.length = vs.length from rs.length.symm]; exact walk_tup, fun F2 m2 A2 H2 hg R2 g2 => R2.fh.t (g2.ff.t s), fun i' d' x' F2 m2 A2 H2 H3 e hg R2 g2 y => .inl ⟨y.1, ?_⟩⟩⟩
    obtain ⟨z, z1, z2⟩ := rs.get e
    have := y.2
    rw [z1] at this; cases this; exact z2.mono g2.ff g2.mm
  cases r with
  | tup s rs => cases hk; exact main (.inl (.inl s)) rs rfl rfl
  | wt s rs => cases hk; exact main s rs rfl rfl
  | _ => cases hk
theorem sw_str (h : SimE K ca W te a) : SimI K ca W (iStr te) (wOf wkS a) := fun F m A σ H env Q R S p => wOf_bind h R S p fun F1 m1 A1 H1 x d kk R1 r hk p1 => by
  cases r with
  | str z =>
    cases hk
    refine ⟨z, rfl, p1 _ F1 m1 H1 R1 Stp.refl ⟨fun _ => True, (fun i H v H' => H' = H ∧ ∃ c, z.cps[i]? = some c ∧ v = .str ⟨#[c]⟩), by rw [show (Wk.mk (signsOf z) _).ds.length = z.cps.size by unfold signsOf; simp]; exact walk_str, fun _ _ _ _ _ _ _ => trivial, fun i' d' x' F2 m2 A2 H2 H3 e hg R2 g2 y => .inl ⟨y.1, ?_⟩⟩⟩
    obtain ⟨_, c, h1, h2⟩ := y
    have e' : (signsOf z)[i']? = some d' := e
    unfold signsOf at e'
    rw [List.getElem?_map, Array.getElem?_toList, h1] at e'
    cases e'
    rw [h2]
    exact .str _
  | _ => cases hk
theorem wOf_pick {f g h : Hs → D → Option Wk} {a : E} (k : ∀ A x, f A x = g A x ∨ f A x = h A x) (env : Sl) (A : Hs) : wOf f a env A = wOf g a env A ∨ wOf f a env A = wOf h a env A := by
  unfold wOf
  cases a env A with
  | stuck => exact .inl rfl
  | exc _ _ => exact .inl rfl
  | ok x A1 =>
    simp only [RE.bind]
    rcases k A1 x with q | q
    · rw [q]; exact .inl rfl
    · rw [q]; exact .inr rfl
def wkTS (A : Hs) (x : D) : Option Wk := match x with
  | .tup _ => wkT A x
  | .wt _ => wkT A x
  | _ => wkS A x
theorem sw_seq (h : SimE K ca W te a) : SimI K ca W (iSeqU K te) (wSeq a) := SimI.pick (sw_list h) (SimI.pick (sw_tup h) (sw_str h) (wOf_pick (f := wkTS) fun A x => by cases x <;> first | exact .inl rfl | exact .inr rfl)) (wOf_pick fun A x => by cases x <;> first | exact .inl rfl | exact .inr rfl)
/-! ranges -/
def wAs (f : List D → Option Wk) (as : As) : Sl → Hs → RE Wk := fun env A => (as env A).bind fun ds A1 => match f ds with
  | some k => .ok k A1
  | none => .stuck
theorem wAs_bind {f : List D → Option Wk} {R' : It → Hp → Prop} {T : List V → Hp → Prop} (h : SimA K ca W ts as) (R : Rl K ca F m A H) (S : Slt K ca F m σ env) (p : PoW K ca F m H W σ R' (wAs f as env A))
    (k : ∀ F1 m1 A1 H1 x d kk, Rl K ca F1 m1 A1 H1 → RepL K ca F1 m1 x d → f d = some kk → PoW K ca F1 m1 H1 W σ R' (.ok kk A1) → T x H1) : ts σ H T := by
  refine h F m A σ H env T R S ?_
  unfold wAs at p
  cases q : as env A with
  | ok d A1 =>
    rw [q] at p
    intro v F1 m1 H1 R1 g1 r
    simp only [RE.bind] at p
    cases z : f d with
    | none => rw [z] at p; exact p.elim
    | some kk =>
      rw [z] at p
      exact k F1 m1 A1 H1 v d kk R1 r z fun J F' m' H' R2 g2 hh => p J F' m' H' R2 (g1.trans g2) hh
  | exc C A1 => rw [q] at p; exact p
  | stuck => rw [q] at p; exact p
def big (i : Int) : Prop := -(2 ^ 62) ≤ i ∧ i < 2 ^ 62
def rgL (lo c : Int) (n : Nat) : List D := (List.range n).map fun i => .int (lo + (i : Nat) * c)
theorem rgL_get {lo c : Int} {n i : Nat} {d : D} (h : (rgL lo c n)[i]? = some d) : d = .int (lo + (i : Nat) * c) ∧ i < n := by
  unfold rgL at h
  rw [List.getElem?_map] at h
  by_cases q : i < n
  · rw [List.getElem?_range q] at h; cases h; exact ⟨rfl, q⟩
  · rw [List.getElem?_eq_none (by simpa using Nat.le_of_not_lt q)] at h; cases h
theorem rgL_len {lo c : Int} {n : Nat} : (rgL lo c n).length = n := by unfold rgL; simp
open Classical in
noncomputable def rg1 : List D → Option Wk
  | [.int j] => if big j then some ⟨rgL 0 1 j.toNat, tt⟩ else none
  | _ => none
open Classical in
noncomputable def rg2 : List D → Option Wk
  | [.int i, .int j] => if big i ∧ big j then some ⟨rgL i 1 (j - i).toNat, tt⟩ else none
  | _ => none
def cnt (i j c : Int) : Nat := (if i < j then (j - i - 1) / c + 1 else 0).toNat
open Classical in
noncomputable def rg3 : List D → Option Wk
  | [.int i, .int j, .int c] => if -(2 ^ 60) ≤ i ∧ i < 2 ^ 60 ∧ -(2 ^ 60) ≤ j ∧ j < 2 ^ 60 ∧ 0 < c ∧ c < 1000000 then some ⟨rgL i c (cnt i j c), tt⟩ else none
  | _ => none
theorem sw_r1 (h : SimA K ca W ts as) : SimI K ca W (iRng1 ts) (wAs rg1 as) := fun F m A σ H env Q R S p => wAs_bind h R S p fun F1 m1 A1 H1 x d kk R1 r hk p1 => by
  match d, x, r, hk with
  | [.int j], _, .cons (.int _) .nil, hk =>
    unfold rg1 at hk
    simp only at hk
    split at hk
    · rename_i hb
      cases hk
      refine ⟨j, rfl, hb.1, hb.2, p1 _ F1 m1 H1 R1 Stp.refl ⟨fun _ => True, YFn fun i => .int (0 + i), by rw [show (Wk.mk (rgL 0 1 j.toNat) _).ds.length = j.toNat from rgL_len]; exact walk_range, fun _ _ _ _ _ _ _ => trivial, fun i' d' x' F2 m2 A2 H2 H3 e hg R2 g2 y => .inl ⟨y.1, ?_⟩⟩⟩
      obtain ⟨e1, _⟩ := rgL_get e
      rw [y.2, e1, Int.mul_one]; exact .int _
    · cases hk
/-! enumerate, zip -/
def enumL (l : List D) : List D := l.zipIdx.map fun p => .tup [.int (p.2 : Nat), p.1]
def wkE (A : Hs) (x : D) : Option Wk := (wkL A x).map fun k => ⟨enumL k.ds, k.gd⟩
/-! ### methods of lists -/
def eBL (o : D → List D → Hs → RE D) (a : E) (as : As) : E := fun env A => (a env A).bind fun x A1 => if (seqL A1 x).isSome then (as env A1).bind fun ds A2 => o x ds A2 else .stuck
def eBL0 (o : D → Hs → RE D) (a : E) : E := fun env A => (a env A).bind fun x A1 => if (seqL A1 x).isSome then o x A1 else .stuck
def MbS (K : PySem.W.Frag) (ca : CaT) (r : V → List V → Hp → VK → Prop) (o : D → List D → Hs → RE D) : Prop := ∀ F m A H x dx vs ds W σ Q, Rl K ca F m A H → Rep K ca F m x dx → RepL K ca F m vs ds → Po K ca (Rep K ca) F m H W σ Q (o dx ds A) → r x vs H Q
theorem tyL_at {A : Hs} (R : Rl K ca F m A H) (r : Rep K ca F m x dx) (h : (seqL A dx).isSome = true) : tyV K "list" x H := by
  obtain ⟨l, hl⟩ := Option.isSome_iff_exists.mp h
  obtain ⟨a, vs, e, h1, h2⟩ := seqL_at R r hl
  subst e
  exact .inl ⟨rfl, vs, h1⟩
theorem se_bl_ {r : V → List V → Hp → VK → Prop} {o : D → List D → Hs → RE D} (h : MbS K ca r o) (ha : SimE K ca W ta a) (hs : SimA K ca W ts as) : SimE K ca W (tBM K "list" r ta ts) (eBL o a as) := fun F m A σ H env Q R S p =>
  ha.bind R S p fun F1 m1 A1 H1 x dx R1 g1 S1 rx p1 => by
    by_cases q : (seqL A1 dx).isSome = true
    · rw [if_pos q] at p1
      exact ⟨tyL_at R1 rx q, hs.bind R1 S1 p1 fun F2 m2 A2 H2 vs ds R2 g2 S2 rs p2 => h F2 m2 A2 H2 x dx vs ds W σ Q R2 (rx.mono g2.ff g2.mm) rs p2⟩
    · rw [if_neg q] at p1; exact p1.elim
/-- the list that stands at a place -/
def lstAt (A : Hs) : D → Option (Nat × List D)
  | .ref i => match A[i]? with
    | some (.lst l) => some (i, l)
    | _ => none
  | _ => none
theorem lstAt_at {A : Hs} {l : List D} (h : lstAt A dx = some (i, l)) : dx = .ref i ∧ A[i]? = some (.lst l) := by
  cases dx with
  | ref j =>
    unfold lstAt at h
    cases q : A[j]? with
    | none => simp [q] at h
    | some o =>
      cases o with
      | lst l' => simp [q] at h; obtain ⟨rfl, rfl⟩ := h; exact ⟨rfl, q⟩
      | dic _ _ _ => simp [q] at h
      | obj _ _ => simp [q] at h
      | nd _ => simp [q] at h
  | _ => cases h
theorem po_put {v : V} {d : D} {a : Addr} {vs vs' : List V} {l' : List D} (R : Rl K ca F m A H) (ha : m[i]? = some a) (h1 : H a = some (.lst vs)) (r : RepL K ca F m vs' l') (rv : Rep K ca F m v d) (p : Po K ca (Rep K ca) F m H W σ Q (.ok d (A.set i (.lst l')))) : Q v (upd H a (.lst vs')) := by
  obtain ⟨R2, g2⟩ := lst_put R ha h1 r
  exact p _ _ _ _ R2 g2 rv
def oAppend (x : D) (ds : List D) (A : Hs) : RE D := match lstAt A x, ds with
  | some (i, l), [d] => if l.length < sizeLine then .ok .non (A.set i (.lst (l ++ [d]))) else .stuck
  | _, _ => .stuck
theorem ms_append : MbS K ca rAppend oAppend := fun F m A H x dx vs ds W σ Q R rx rs p => by
  unfold oAppend at p
  split at p
  · rename_i i l d hA
    split at p
    · rename_i hl
      obtain ⟨e, hA2⟩ := lstAt_at hA
      subst e
      obtain ⟨a, vs', e, h1, h2, h3⟩ := lst_at R rx hA2
      match vs, rs with
      | [y], .cons r1 .nil => exact ⟨a, vs', y, e, rfl, h2, by rw [h3.length]; exact hl, po_put R h1 h2 (h3.append (.cons r1 .nil)) .non p⟩
    · exact p.elim
  · exact p.elim
def oExtend (x : D) (ds : List D) (A : Hs) : RE D := match lstAt A x, ds with
  | some (i, l), [d] => match lstAt A d with
    | some (_, k) => if l.length + k.length ≤ sizeLine then .ok .non (A.set i (.lst (l ++ k))) else .stuck
    | none => match d with
      | .tup k => if l.length + k.length ≤ sizeLine then .ok .non (A.set i (.lst (l ++ k))) else .stuck
      | _ => .stuck
  | _, _ => .stuck
def oPopAt (x : D) (ds : List D) (A : Hs) : RE D := match lstAt A x, ds with
  | some (i, l), [.int j] => if -(2 ^ 63) ≤ j ∧ j < 2 ^ 63 then match seqIndex? j l.length with
      | some k => match l[k]? with
        | some d => .ok d (A.set i (.lst (l.eraseIdx k)))
        | none => .stuck
      | none => .stuck
    else .stuck
  | _, _ => .stuck
def oClear (x : D) (A : Hs) : RE D := match lstAt A x with
  | some (i, _) => .ok .non (A.set i (.lst []))
  | none => .stuck
/-- bs.count(c), bs.index(c), of truths -/
def oCount (x : D) (ds : List D) (A : Hs) : RE D := match (seqL A x).bind boolsOf, ds with
  | some bs, [.bl c] => .ok (.int (bs.count c : Nat)) A
  | _, _ => .stuck
end
end SM

namespace SM
open PySem L2
open DL (Ex ExK rJoin rIdxS)
section
variable {K : PySem.W.Frag} {ca : CaT} {F F1 F2 H H1 H2 : Hp} {m m1 m2 : List Addr} {A A1 A2 : Hs} {σ : L2.St} {env : Sl} {W : WX} {Q : VK}
variable {ta tb tc te to ti : TE} {a b c o : E} {i : Nat} {d : D} {ts : TA} {as : As} {x : V} {dx : D}
/-! ### methods of texts, one argument -/
/-! ### methods of dicts -/
def isDic (A : Hs) (x : D) : Bool := (dicAt A x).isSome
theorem isD_of (R : Rl K ca F m A H) (r : Rep K ca F m x dx) (h : isDic A dx = true) : ∃ a, x = .ref a ∧ L2.IsD H a := by
  unfold isDic dicAt at h
  cases r with
  | ref hm =>
    rename_i aa i
    simp only at h
    cases q : A[i]? with
    | none => simp [q] at h
    | some o =>
      cases o with
      | dic t lk l =>
        obtain ⟨a, e, ha, r⟩ := R.at q (.ref hm)
        cases e
        cases t with
        | false => obtain ⟨kvs, h1, _⟩ := r; exact ⟨aa, rfl, .inl ⟨kvs, rdK h1⟩⟩
        | true => obtain ⟨kvs, h1, _⟩ := r; exact ⟨aa, rfl, .inr ⟨kvs, rdK h1⟩⟩
      | lst _ => simp [q] at h
      | obj _ _ => simp [q] at h
      | nd _ => simp [q] at h
  | _ => cases h
def getD (A : Hs) (x y z : D) : Option D := match dicAt A x with
  | some (t, l) => if keyOk t y then some ((kget l y).getD z) else none
  | none => none
def ofO {α : Type} (A : Hs) : Option α → RE α
  | some d => .ok d A
  | none => .stuck
/-- d.get(y, z) -/
def eGet2 (o i e : E) : E := fun env A => (o env A).bind fun x A1 => if isDic A1 x then (i env A1).bind fun y A2 => (e env A2).bind fun z A3 => ofO A3 (getD A3 x y z) else .stuck
theorem se_get2 {tz : TE} {e : E} (ho : SimE K ca W to a) (hi : SimE K ca W ti b) (he : SimE K ca W tz e) : SimE K ca W (tDGet2 to ti tz) (eGet2 a b e) := fun F m A σ H env Q R S p =>
  ho.bind R S p fun F1 m1 A1 H1 x dx R1 g1 S1 rx p1 => by
    by_cases q : isDic A1 dx = true
    · rw [if_pos q] at p1
      obtain ⟨aa, e1, h1⟩ := isD_of R1 rx q
      refine ⟨aa, e1, h1, hi.bind R1 S1 p1 fun F2 m2 A2 H2 y dy R2 g2 S2 ry p2 => he.bind R2 S2 p2 fun F3 m3 A3 H3 z dz R3 g3 S3 rz p3 => ?_⟩
      unfold getD at p3
      cases hl : dicAt A3 dx with
      | none => simp only [hl] at p3; exact p3.elim
      | some tl =>
        obtain ⟨t, l⟩ := tl
        simp only [hl] at p3
        by_cases hk : keyOk t dy = true
        · rw [if_pos hk] at p3
          obtain ⟨a2, oo, e2, h2, _, h3, h4⟩ := dic_get R3 (rx.mono (g2.trans g3).ff (g2.trans g3).mm) (ry.mono g3.ff g3.mm) hl hk
          rw [e1] at e2; cases e2
          refine ⟨oo, h2, ?_⟩
          cases w : kget l dy with
          | none =>
            rw [h4 w]; rw [w] at p3
            exact po_ok R3 rz p3
          | some dd =>
            obtain ⟨v, e3, rv⟩ := h3 dd w
            rw [e3]; rw [w] at p3
            exact po_ok R3 rv p3
        · rw [if_neg hk] at p3; exact p3.elim
    · rw [if_neg q] at p1; exact p1.elim
/-! ### a dict of the written part -/
inductive TabOk (K : PySem.W.Frag) (w : World) (da : Addr) : List (String × Int) → Prop
  | nil : TabOk K w da []
  | cons {k : String} {k' : Str} {n : Int} {r : List (String × Int)} : k' = fS k → KDct K w da k' (.int n) → TabOk K w da r → TabOk K w da ((k, n) :: r)
theorem TabOk.of {w : World} {da : Addr} {tb : List (String × Int)} (h : TabOk K w da tb) {z : Str} {n : String × Int} (q : (tb.find? fun e => decide (fS e.1 = z)) = some n) : KDct K w da z (.int n.2) := by
  induction h with
  | nil => cases q
  | cons e h1 h2 ih =>
    rename_i k k' n' r
    rw [List.find?_cons] at q
    by_cases c : fS k = z
    · simp only [c, decide_true] at q
      cases q
      rw [← c, ← e]; exact h1
    · simp only [c, decide_false] at q
      exact ih q
end
end SM

namespace DL
open PySem L2
theorem room65w {k : Nat} {A : Around} (r : Room k A) : A.units + 1 < cLine := by have := r.un; omega
end DL
namespace SM
open PySem L2
open DL (Ex ExK)
/-- a written text -/
def dS (s : String) : D := .str (fS s)
section
variable {K : PySem.W.Frag} {ca : CaT} {F F1 F2 H H1 H2 : Hp} {m m1 m2 : List Addr} {A A1 A2 A3 : Hs} {σ : L2.St} {env : Sl} {W : WX} {Q : VK}
variable {ta tb tc te to ti tv : TE} {a b c o v : E} {i : Nat} {d : D} {ts : TA} {as : As} {x : V} {dx : D} {cs : List String}
theorem se_strS {x : Str} {s : String} (h : x = fS s) : SimE K ca W (tC (.str x)) (eC (dS s)) := se_c fun _ _ => by subst h; exact .str _
/-- xs or e, xs a list -/
def eOrL (a b : E) : E := fun env A => (a env A).bind fun x A1 => match seqL A1 x with
  | some l => if l.isEmpty then b env A1 else .ok x A1
  | none => .stuck
/-! ### {k: v, ..} -/
abbrev Dps := Sl → Hs → RE (List (D × D))
def dNil : Dps := fun _ A => .ok [] A
def dCons (k v : E) (r : Dps) : Dps := fun env A => (k env A).bind fun x A1 => (v env A1).bind fun y A2 => (r env A2).bind fun ps A3 => .ok ((x, y) :: ps) A3
def kmerge (l : List (D × D)) : List (D × D) → List (D × D)
  | [] => l
  | (k, v) :: r => kmerge (kput l k v) r
def eDisp (d : Dps) : E := fun env A => (d env A).bind fun ps A1 => if (ps.all fun p => (keyK p.1).isSome) && decide (ps.length ≤ 15) then alloc A1 (.dic false false (kmerge [] ps)) else .stuck
inductive RepP (K : PySem.W.Frag) (ca : CaT) (F : Hp) (m : List Addr) : List (V × V) → List (D × D) → Prop
  | nil : RepP K ca F m [] []
  | cons {x y : V} {d e : D} {r : List (V × V)} {s : List (D × D)} : Rep K ca F m x d → Rep K ca F m y e → RepP K ca F m r s → RepP K ca F m ((x, y) :: r) ((d, e) :: s)
abbrev SimP (K : PySem.W.Frag) (ca : CaT) (W : WX) (trs : List (TE × TE)) (f : Dps) : Prop := Sim K ca (RepP K ca) W (tPairs trs) f
theorem sd_nil : SimP K ca W [] dNil := fun F m A σ H env Q R S p => p [] F m H R Stp.refl .nil
theorem sd_cons {tk tv : TE} {r : List (TE × TE)} {k v : E} {d : Dps} (hk : SimE K ca W tk k) (hv : SimE K ca W tv v) (hr : SimP K ca W r d) : SimP K ca W ((tk, tv) :: r) (dCons k v d) := fun F m A σ H env Q R S p =>
  hk.bind R S p fun F1 m1 A1 H1 x dx R1 g1 S1 rx p1 => hv.bind R1 S1 p1 fun F2 m2 A2 H2 y dy R2 g2 S2 ry p2 => hr.bind R2 S2 p2 fun F3 m3 A3 H3 ps ds R3 g3 S3 rs p3 =>
    p3 _ F3 m3 H3 R3 Stp.refl (.cons (rx.mono (g2.trans g3).ff (g2.trans g3).mm) (ry.mono g3.ff g3.mm) rs)
theorem kmerge_rep : ∀ {more : List (Key × V)} {ps : List (D × D)} {kvs : List (Key × V)} {l : List (D × D)}, KvR K ca F m kD more ps → KvR K ca F m kD kvs l → KvR K ca F m kD (L2.mergeK kvs more) (kmerge l ps)
  | _, _, _, _, .nil, h => h
  | _ :: more, _ :: ps, kvs, l, .cons (k := k) (v := v) r1 r2, h => kmerge_rep (more := more) (ps := ps) (kvs := putK kvs k v) r2 (kput_rep keq_kD r1 h)
theorem repP_keys : ∀ {vs : List (V × V)} {ps : List (D × D)}, RepP K ca F m vs ps → (ps.all fun p => (keyK p.1).isSome) = true → ∃ kvs : List (Key × V), vs = kvs.map (fun kv => (kV kv.1, kv.2)) ∧ KvR K ca F m kD kvs ps
  | _, _, .nil, _ => ⟨[], rfl, .nil⟩
  | _, _, .cons (d := d) r1 r2 rs, h => by
    rw [List.all_cons, Bool.and_eq_true] at h
    obtain ⟨kvs, h1, h2⟩ := repP_keys rs h.2
    obtain ⟨k, hk⟩ := Option.isSome_iff_exists.mp h.1
    have e := keyK_kD hk
    have e : d = kD k := e
    subst e
    refine ⟨(k, _) :: kvs, ?_, .cons r2 h2⟩
    rw [List.map_cons, ← h1]
    cases k with
    | inl i => cases r1; rfl
    | inr x => cases r1; rfl
theorem se_disp {trs : List (TE × TE)} {d : Dps} (h : SimP K ca W trs d) : SimE K ca W (tDisp trs) (eDisp d) := fun F m A σ H env Q R S p q hq => by
  obtain ⟨R1, g1⟩ := R.newH (u := .dK []) hq
  refine h F m A σ _ env _ R1 (S.stp g1) ?_
  unfold eDisp at p
  cases z : d env A with
  | stuck => rw [z] at p; exact p
  | exc C A1 => rw [z] at p; exact fun F' m' H' R' g' => p F' m' H' R' (g1.trans g')
  | ok ps A1 =>
    rw [z] at p
    intro vs F2 m2 H2 R2 g2 rp
    simp only [RE.bind] at p
    split at p
    · rename_i hk
      rw [Bool.and_eq_true, decide_eq_true_eq] at hk
      obtain ⟨kvs, e1, h2⟩ := repP_keys rp hk.1
      have hD : H2 q = some (.dK []) := g2.kp q _ upd_same (R.out hq) (by intro _ z; cases z)
      refine ⟨hD, kvs, e1, by rw [h2.length]; exact hk.2, ?_⟩
      have nm : q ∉ m2 := fun z => by
        rcases g2.gm q z with y | y
        · exact R.out hq y
        · exact y.no upd_same trivial
      have nF : F2 q = none := by
        cases w : F2 q with
        | none => rfl
        | some _ =>
          rcases g2.gn q (by rw [w]; simp) with y | y | ⟨xs, y⟩
          · exact absurd (R.fh.back hq) y
          · exact (y.no upd_same trivial).elim
          · have := R2.fh q _ y
            rw [hD] at this; cases this
      have gA : Stp F m H F2 m2 H2 := g1.trans g2
      have R3 : Rl K ca F2 m2 A1 (upd H2 q (.dK (L2.mergeK [] kvs))) := ⟨R2.fh.right nF, R2.len, R2.nd, R2.fr, fun j o b h1 h2 => (R2.ob j o b h1 h2).mono (Ex.refl _) (Pre.refl _) fun w hw => by
        rw [upd_ne fun z => nm (by rw [← z]; exact List.mem_of_getElem? h2)]; exact hw, tabs_upd R2.tb hD trivial, R2.ft⟩
      have R4 := R3.take (o := .dic false false (kmerge [] ps)) nm nF ⟨_, upd_same, (kmerge_rep h2 .nil).mono (Ex.refl _) ⟨_, rfl⟩⟩
      refine p (.ref q) F2 (m2 ++ [q]) _ R4 ⟨gA.ff, gA.mm.trans ⟨_, rfl⟩, fun b w hb n nt => ?_, gA.gn, fun b hb => ?_, fun b hb => ?_, fun b od w hb => ?_⟩ (.ref (by rw [List.getElem?_append_right (by rw [R2.len]; exact Nat.le_refl _), R2.len]; simp))
      · rw [upd_ne fun z => by rw [z, hq] at hb; cases hb]; exact gA.kp b w hb n nt
      · rcases List.mem_append.mp hb with y | y
        · exact gA.gm b y
        · rw [List.mem_singleton] at y; rw [y]; exact .inr (.none hq)
      · by_cases w : b = q
        · rw [w]; exact .none hq
        · exact gA.th b (hb.back fun u hu => by rw [upd_ne w]; exact hu)
      · rw [upd_ne fun z => by rw [z, hq] at hb; cases hb]; exact gA.fz b od w hb
    · exact p.elim
/-! ### op= -/
/-- += : ints, a list longer, a tuple and a tuple, texts -/
def rIAdd (K : PySem.W.Frag) : TIp := fun x y H Q => DL.ipAddT K x y H Q ∨ rAddS x y H Q
theorem ip_addA {X : Cx} {K : PySem.W.Frag} (e : X.K = K := by rfl) : PIp X .Add (rIAdd K) := by
  subst e
  intro pins s σ H x y v u Q I rx ry h
  rcases h with h | h
  · exact DL.ip_addT (X := X) rfl pins s σ H x y v u Q I rx ry h
  · exact in_addS pins s σ H x y v u Q I rx ry h
def oIAdd (x y : D) (A : Hs) : RE D := match x, y with
  | .int i, .int j => .ok (.int (i + j)) A
  | .str z, .str w => if z.length + w.length ≤ sizeLine then .ok (.str (z ++ w)) A else .stuck
  | .tup l, .tup k => if l ≠ [] ∧ l.length + k.length ≤ sizeLine then .ok (.tup (l ++ k)) A else .stuck
  | .ref i, .ref j => match A[i]?, A[j]? with
    | some (.lst l), some (.lst k) => if l.length + k.length ≤ sizeLine then .ok (.ref i) (A.set i (.lst (l ++ k))) else .stuck
    | _, _ => .stuck
  | _, _ => .stuck
theorem ips_add : IpS K ca (rIAdd K) oIAdd := fun F m A H x y dx dy W σ Q R rx ry p => by
  cases rx with
  | int i =>
    cases ry with
    | int j => exact .inl (.inl (.inl ⟨i, j, rfl, rfl, po_ok R (.int _) p⟩))
    | _ => exact p.elim
  | str z =>
    cases ry with
    | str w =>
      unfold oIAdd at p
      simp only at p
      split at p
      · rename_i hl; exact .inr ⟨z, w, rfl, rfl, hl, po_ok R (.str _) p⟩
      · exact p.elim
    | _ => exact p.elim
  | tup s rs =>
    cases ry with
    | tup s' rs' =>
      rename_i a vs l b ws k
      unfold oIAdd at p
      simp only at p
      split at p
      · rename_i hl
        refine .inl (.inr ⟨a, b, vs, ws, rfl, rfl, .inl (.inl (R.fh _ _ s)), .inl (.inl (R.fh _ _ s')), fun z => ?_, by rw [rs.length, rs'.length]; exact hl.2, fun e => ?_, fun _ q hq => ?_⟩)
        · subst z; cases rs; exact hl.1 rfl
        · subst e; cases rs'; rw [List.append_nil] at p; exact po_ok R (.tup s rs) p
        · obtain ⟨R2, g2⟩ := R.new (u := .tup (vs ++ ws)) hq
          exact p _ _ _ _ R2 g2 (.tup upd_same ((rs.append rs').mono g2.ff g2.mm))
      · exact p.elim
    | _ => exact p.elim
  | ref hm =>
    cases ry with
    | ref hm' =>
      rename_i a i b j
      unfold oIAdd at p
      simp only at p
      split at p
      · rename_i l k q1 q2
        split at p
        · rename_i hl
          obtain ⟨a', vs, e1, h1, h2, h3⟩ := lst_at R (.ref hm) q1
          obtain ⟨b', ws, e2, h4, h5, h6⟩ := lst_at R (.ref hm') q2
          rw [e1]
          exact .inl (.inl (.inr ⟨a', b', vs, ws, rfl, e2, h2, h5, by rw [h3.length, h6.length]; exact hl, po_put R h1 h2 (h3.append h6) (.ref h1) p⟩))
        · exact p.elim
      · exact p.elim
    | _ => exact p.elim
  | _ => exact p.elim
/-! ### d[k] op= e, xs[i] op= e -/
/-- a dict's item -/
def sDAugP (op : D → D → Hs → RE D) (o i a : E) : S := fun env A => ofE env (o env A) fun x A1 => ofE env (i env A1) fun y A2 => ofE env (oDGet x y A2) fun z A3 => ofE env (a env A3) fun v A4 => ofE env (op z v A4) fun r A5 => if isLst A5 x then .stuck else ofH env (setIt A5 x y r)
/-- a list's item, by a place from 0 on -/
def getN (A : Hs) (x y : D) : Option D := match seqL A x, y with
  | some l, .int i => if 0 ≤ i then l[i.toNat]? else none
  | _, _ => none
def sLAugP (op : D → D → Hs → RE D) (o i a : E) : S := fun env A => ofE env (o env A) fun x A1 => ofE env (i env A1) fun y A2 => match getN A2 x y with
  | some z => ofE env (a env A2) fun v A4 => ofE env (op z v A4) fun r A5 => if isLst A5 x then ofH env (setIt A5 x y r) else .stuck
  | none => .stuck
theorem ss_laug {r : TIp} {op : D → D → Hs → RE D} (hop : IpS K ca r op) (ho : SimE K ca W to o) (hi : SimE K ca W ti b) (hv : SimE K ca W tv v) : SimS K ca W (tAugS to ti tv (rGetN K) r rSetL) (sLAugP op o b v) := fun F m A σ H env Dn R S p =>
  ofE_bind ho R S p fun F1 m1 A1 H1 x dx R1 g1 S1 rx p1 => ofE_bind hi R1 S1 p1 fun F2 m2 A2 H2 y dy R2 g2 S2 ry p2 => by
    have rx2 := rx.mono g2.ff g2.mm
    cases q : getN A2 dx dy with
    | none => simp only [q] at p2; exact p2.elim
    | some d =>
      simp only [q] at p2
      unfold getN at q
      cases ql : seqL A2 dx with
      | none => simp [ql] at q
      | some l =>
        cases ry with
        | int j =>
          simp only [ql] at q
          split at q
          · rename_i hj
            obtain ⟨a, vs, e, h1, h2⟩ := seqL_at R2 rx2 ql
            obtain ⟨w, w1, w2⟩ := h2.get q
            refine ⟨a, vs, j.toNat, w, e, by rw [Int.toNat_of_nonneg hj], h1, w1, ofE_bind hv R2 S2 p2 fun F3 m3 A3 H3 z dz R3 g3 S3 rz p3 => ?_⟩
            refine hop F3 m3 A3 H3 w z d dz W σ _ R3 (w2.mono g3.ff g3.mm) rz (po_ofE S3 p3 fun F4 m4 A4 H4 u du R4 g4 S4 ru p4 => ?_)
            split at p4
            · rename_i hl
              cases hs : setIt A4 dx (.int j) du with
              | none => rw [hs] at p4; exact p4.elim
              | some A5 =>
                rw [hs] at p4
                obtain ⟨k, l2, rfl, hA⟩ := isLst_at (w := true) hl
                exact set_lst (Dn := Dn) R4 (rx2.mono (g3.trans g4).ff (g3.trans g4).mm) (.int j) ru hA hs fun H5 R5 g5 => p4 F4 m4 σ H5 R5 g5 (S4.stp g5)
            · exact p4.elim
          · cases q
        | _ => simp [ql] at q
/-! ### min of three -/
def c3 (f : D → D → D → Hs → RE D) : List D → Hs → RE D := fun ds A => match ds with
  | [d, e, g] => f d e g A
  | _ => .stuck
def oMin3 (x y z : D) (A : Hs) : RE D := match x, y, z with
  | .int i, .int j, .int k => .ok (.int (min (min i j) k)) A
  | _, _, _ => .stuck
end
end SM

/-! ## equations for the plain functions -/
namespace SM
open PySem L2
section
variable {α β : Type} {A A1 A2 A3 : Hs} {env e1 e2 : Sl} {a b c o v : E} {as : As} {d d1 d2 x y z : D} {i j k n : Nat} {p q r : Int} {C : String} {f g : S} {F : Fn} {cs os xs : List String} {tb : List (String × String × Bool)} {l l1 l2 : List D} {fs : List (String × D)}
theorem z2x {f : α → Hs → RE β} : (RE.exc C A : RE α).bind f = .exc C A := rfl
theorem z0i {f : α → Hs → RE β} : (RE.stuck : RE α).bind f = .stuck := rfl
theorem z6l {x : α} : (RE.ok x A).noX = .ok x A := rfl
theorem z4a : (RE.exc C A : RE α).noX = .stuck := rfl
theorem z5r {e : Sl} : eVar 0 (some d :: e) A = .ok d A := rfl
theorem z7g {e : Sl} {s : Option D} : eVar (n + 1) (s :: e) A = eVar n e A := rfl
theorem eC_ : eC d env A = .ok d A := rfl
theorem zc7 {o : D → D → Hs → RE D} : eOp o a b env A = (a env A).bind fun x A1 => (b env A1).bind fun y A2 => o x y A2 := rfl
theorem zc2 {o : D → Hs → RE D} : eUn o a env A = (a env A).bind fun x A1 => o x A1 := rfl
theorem z8u : aNil env A = .ok [] A := rfl
theorem z6x : aCons a as env A = (a env A).bind fun x A1 => (as env A1).bind fun xs A2 => .ok (x :: xs) A2 := rfl
theorem zc3 {f : List D → Hs → RE D} : eCB f as env A = (as env A).bind f := rfl
theorem z62 : eCall F as env A = (as env A).bind F := rfl
theorem z47 : eCall0 F as env A = (as env A).bind fun ds A1 => (F ds A1).noX := rfl
theorem c1_ {f : D → Hs → RE D} : c1 f [d] A = f d A := rfl
theorem c2_ {f : D → D → Hs → RE D} : c2 f [d, d1] A = f d d1 A := rfl
theorem c3_ {f : D → D → D → Hs → RE D} : c3 f [d, d1, d2] A = f d d1 d2 A := rfl
/-- a truth, or stuck -/
def bl_ {α : Type} (r : RE D) (k : Bool → Hs → RE α) : RE α := match r with
  | .ok (.bl c) A => k c A
  | .ok _ _ => .stuck
  | .exc C A => .exc C A
  | .stuck => .stuck
theorem z8g {c : Bool} {k : Bool → Hs → RE α} : bl_ (.ok (.bl c) A) k = k c A := rfl
theorem z66 {k : Bool → Hs → RE α} : bl_ (.exc C A) k = .exc C A := rfl
theorem z87 : eAnd a b env A = bl_ (a env A) fun c A1 => if c = true then b env A1 else .ok (.bl false) A1 := by
  unfold eAnd bl_ RE.bind
  cases a env A with
  | ok x A1 => cases x with
    | bl c => cases c <;> rfl
    | _ => rfl
  | _ => rfl
theorem zbl : eOr a b env A = bl_ (a env A) fun c A1 => if c = true then .ok (.bl true) A1 else b env A1 := by
  unfold eOr bl_ RE.bind
  cases a env A with
  | ok x A1 => cases x with
    | bl c => cases c <;> rfl
    | _ => rfl
  | _ => rfl
theorem z85 : eNot a env A = bl_ (a env A) fun c A1 => .ok (.bl (!c)) A1 := by
  unfold eNot bl_ RE.bind
  cases a env A with
  | ok x A1 => cases x <;> rfl
  | _ => rfl
theorem zbd {o o' : D → D → Hs → RE D} : eCh o o' a b c env A = (a env A).bind fun x A1 => (b env A1).bind fun y A2 => bl_ (o x y A2) fun k A3 => if k = true then (c env A3).bind fun w A4 => o' y w A4 else .ok (.bl false) A3 := by
  unfold eCh bl_ RE.bind
  cases a env A with
  | ok x A1 =>
    simp only
    cases b env A1 with
    | ok y A2 =>
      simp only
      cases o x y A2 with
      | ok z A3 => cases z with
        | bl k => cases k <;> rfl
        | _ => rfl
      | _ => rfl
    | _ => rfl
  | _ => rfl
theorem zb0 : tOf a env A = bl_ (a env A) fun c A1 => .ok c A1 := by
  unfold tOf bl_ RE.bind
  cases a env A with
  | ok x A1 => cases x <;> rfl
  | _ => rfl
theorem zbw {s t : Tt} : tAn s t env A = (s env A).bind fun c A1 => if c = true then t env A1 else .ok false A1 := rfl
theorem zb9 {s t : Tt} : tOo s t env A = (s env A).bind fun c A1 => if c = true then .ok true A1 else t env A1 := rfl
theorem zaw {s : Tt} : tNo s env A = (s env A).bind fun c A1 => .ok (!c) A1 := rfl
theorem zcb : tYe env A = .ok true A := rfl
theorem zba {s : Tt} : eIf s a b env A = (s env A).bind fun c A1 => if c = true then a env A1 else b env A1 := rfl
theorem zab : eTup as env A = (as env A).bind fun ds A1 => if ds.length ≤ sizeLine then .ok (.tup ds) A1 else .stuck := rfl
theorem z9u : eLst as env A = (as env A).bind fun ds A1 => if ds.length ≤ sizeLine then .ok (.ref A1.length) (A1 ++ [.lst ds]) else .stuck := rfl
theorem z0o {n : Nat} (h : n ≤ 16000000) : n ≤ sizeLine := by rw [sizeLine_eq]; omega
theorem small_line' {n : Nat} (h : n < 16000000) : n < sizeLine := by rw [sizeLine_eq]; omega
theorem z6i {t : Bool} : eDNew t env A = .ok (.ref A.length) (A ++ [.dic t false []]) := rfl
theorem zb6 : oNo env A = .ok none A := rfl
def int_ {α : Type} (r : RE D) (k : Int → Hs → RE α) : RE α := match r with
  | .ok (.int c) A => k c A
  | .ok _ _ => .stuck
  | .exc C A => .exc C A
  | .stuck => .stuck
theorem z78 {c : Int} {k : Int → Hs → RE α} : int_ (.ok (.int c) A) k = k c A := rfl
theorem zaf : oSo a env A = int_ (a env A) fun c A1 => .ok (some c) A1 := by
  unfold oSo int_ RE.bind
  cases a env A with
  | ok x A1 => cases x <;> rfl
  | _ => rfl
theorem zby {o : D → Option Int → Option Int → Hs → RE D} {lo hi : Sl → Hs → RE (Option Int)} : eSl o a lo hi env A = (a env A).bind fun x A1 => (lo env A1).bind fun l A2 => (hi env A2).bind fun h A3 => o x l h A3 := rfl
/-! statements -/
def seqR (r : RS) (b : S) : RS := match r with
  | .nx env' A' => b env' A'
  | r => r
theorem z6y : seqR (.rt d A) g = .rt d A := rfl
theorem z56 : seqR (.exc C env A) g = .exc C env A := rfl
theorem z5f : seqR (.bk env A) g = .bk env A := rfl
theorem z6c : seqR (.ct env A) g = .ct env A := rfl
theorem z0w : seqR .stuck g = .stuck := rfl
theorem zb8 : sNx env A = .nx env A := rfl
theorem zbz : sBk env A = .bk env A := rfl
theorem zax : sCt env A = .ct env A := rfl
theorem z4b : sRaise C env A = .exc C env A := rfl
theorem z6g {k : D → Hs → RS} : ofE env (.ok d A) k = k d A := rfl
theorem z57 {k : D → Hs → RS} : ofE env (.exc C A) k = .exc C env A := rfl
theorem z7h {c : Bool} {k : Bool → Hs → RS} : ofT env (.ok c A) k = k c A := rfl
theorem z4o {k : Bool → Hs → RS} : ofT env (.exc C A) k = .exc C env A := rfl
theorem z6f : sDrop a env A = ofE env (a env A) fun _ A1 => .nx env A1 := rfl
theorem z84 : sRet a env A = ofE env (a env A) fun d A1 => .rt d A1 := rfl
theorem z7e : sRetN env A = .rt .non A := rfl
theorem zcc {t : Tt} : sIf t f g env A = ofT env (t env A) fun c A1 => if c = true then f env A1 else g env A1 := rfl
theorem z8v : sSet i a env A = ofE env (a env A) fun d A1 => .nx (env.set i (some d)) A1 := rfl
def ofS (r : Option Sl) (A : Hs) : RS := match r with
  | some env' => .nx env' A
  | none => .stuck
theorem z2i : ofS (some env) A = .nx env A := rfl
theorem z8d {g : G} : sAsg a g env A = ofE env (a env A) fun d A1 => ofS (g d env A1) A1 := by
  unfold sAsg ofS; rfl
theorem gN_ : gN i d env A = some (env.set i (some d)) := rfl
theorem z5e {gs : List G} : gT gs (.tup l) env A = gAll gs l env A := rfl
theorem z28 : gAll [] [] env A = some env := rfl
theorem z0s {g : G} {gs : List G} : gAll (g :: gs) (d :: l) env A = (g d env A).bind fun e => gAll gs l e A := by
  rw [gAll]; cases g d env A <;> rfl
def par_ (env : Sl) (i j : Nat) (r : RE (List D)) : RS := match r with
  | .ok [x, y] A1 => .nx ((env.set i (some x)).set j (some y)) A1
  | .exc C A1 => .exc C env A1
  | _ => .stuck
theorem za2 : sPar i j as env A = par_ env i j (as env A) := rfl
theorem z72 : par_ env i j (.ok [x, y] A) = .nx ((env.set i (some x)).set j (some y)) A := rfl
def var_ (env : Sl) (i : Nat) (k : D → RS) : RS := match env[i]? with
  | some (some x) => k x
  | _ => .stuck
theorem z86 {e : Sl} {k : D → RS} : var_ (some d :: e) 0 k = k d := rfl
theorem z9s {e : Sl} {s : Option D} {k : D → RS} : var_ (s :: e) (n + 1) k = var_ e n k := rfl
theorem z88 {o : D → D → Hs → RE D} : sAug i o a env A = var_ env i fun x => ofE env (a env A) fun y A1 => ofE env (o x y A1) fun z A2 => .nx (env.set i (some z)) A2 := rfl
def finR (r : RS) : RE D := match r with
    | .nx _ A' => .ok .non A'
    | .rt d A' => .ok d A'
    | .exc C _ A' => .exc C A'
    | _ => .stuck
theorem z6q : finR (.nx env A) = .ok .non A := rfl
theorem z6v : finR (.rt d A) = .ok d A := rfl
theorem z3i : finR (.exc C env A) = .exc C A := rfl
theorem z1q : finR .stuck = .stuck := rfl
theorem z99 (h : l.length = n) : mkFn n k f l A = finR (f (l.map some ++ List.replicate (k - n) none) A) := by
  unfold mkFn; rw [if_pos h]; unfold finR; rfl
theorem za4 {e : Sl} {s t : Option D} : List.set (s :: e) 0 t = t :: e := rfl
theorem z7v {e : Sl} {s t : Option D} : List.set (s :: e) (n + 1) t = s :: List.set e n t := rfl
/-! operators -/
theorem z70 : oAdd (.int p) (.int q) A = .ok (.int (p + q)) A := rfl
theorem z5j (h : l.length + l1.length ≤ 16000000) : oAdd (.tup l) (.tup l1) A = .ok (.tup (l ++ l1)) A := by
  unfold oAdd; simp only; rw [if_pos (z0o h)]
theorem z67 {s t : Str} (h : s.length + t.length ≤ 16000000) : oAdd (.str s) (.str t) A = .ok (.str (s ++ t)) A := by
  unfold oAdd; simp only; rw [if_pos (z0o h)]
theorem z6s : oSub (.int p) (.int q) A = .ok (.int (p - q)) A := rfl
theorem z5h (h : -18446744073709551616 < q ∧ q < 18446744073709551616) : oMul (.int p) (.int q) A = .ok (.int (p * q)) A := by
  unfold oMul; simp only; rw [if_pos (.inl (.inr ⟨by have := h.1; omega, by have := h.2; omega⟩))]
theorem z6u (h : -18446744073709551616 < p ∧ p < 18446744073709551616) : oMul (.int p) (.int q) A = .ok (.int (p * q)) A := by
  unfold oMul; simp only; rw [if_pos (.inl (.inl ⟨by have := h.1; omega, by have := h.2; omega⟩))]
theorem z6j (h : l.length ≤ 1000 ∧ -1000 ≤ q ∧ q ≤ 4000) : oMul (.tup l) (.int q) A = .ok (.tup (List.replicate q.toNat l).flatten) A := by
  unfold oMul; simp only; rw [if_pos h]
theorem log_small {q : Int} (h : 0 < q ∧ q < 18446744073709551616) : q.natAbs.log2 < 9000 := by
  have : q.natAbs < 2 ^ 64 := by omega
  by_cases z : q.natAbs = 0
  · rw [z]; decide
  · have := (Nat.log2_lt z).mpr this; omega
theorem z5c (h : 0 < q ∧ q < 18446744073709551616) : oDiv (.int p) (.int q) A = .ok (.int (p / q)) A := by
  unfold oDiv oII; simp only; rw [if_pos ⟨h.1, log_small h⟩]
theorem z7k (h : 0 < q) : oMod (.int p) (.int q) A = .ok (.int (p % q)) A := by
  unfold oMod oII; simp only; rw [if_pos h]
theorem z5u (h : 0 ≤ q ∧ q ≤ 1000000 ∧ p.natAbs < 18446744073709551616) : oPow (.int p) (.int q) A = .ok (.int (p ^ q.toNat)) A := by
  unfold oPow oII; simp only; rw [if_pos ⟨h.1, h.2.1, by have := h.2.2; omega⟩]
theorem z7u : oLt (.int p) (.int q) A = .ok (.bl (decide (p < q))) A := rfl
theorem zaa : oLe (.int p) (.int q) A = .ok (.bl (decide (p ≤ q))) A := rfl
theorem z9b : oGt (.int p) (.int q) A = .ok (.bl (decide (q < p))) A := rfl
theorem z7s : oGe (.int p) (.int q) A = .ok (.bl (decide (q ≤ p))) A := rfl
theorem z7l : oNeg (.int p) A = .ok (.int (-p)) A := rfl
theorem z49 : oMax2 (.int p) (.int q) A = .ok (.int (max p q)) A := by
  show RE.ok (D.int (if q > p then q else p)) A = _
  congr 2; omega
theorem z58 : oMin2 (.int p) (.int q) A = .ok (.int (min p q)) A := by
  show RE.ok (D.int (if q < p then q else p)) A = _
  congr 2; omega
theorem z40 : oMin3 (.int p) (.int q) (.int r) A = .ok (.int (min (min p q) r)) A := rfl
theorem z7p : oInt (.int p) A = .ok (.int p) A := rfl
theorem z6d {b : Bool} : oInt (.bl b) A = .ok (.int (if b then 1 else 0)) A := rfl
theorem z9k : oEq (.int p) (.int q) A = .ok (.bl (decide (p = q))) A := by
  unfold oEq oB eqA; simp [pyA, PyData.eqv]; rfl
theorem z8m : oNe (.int p) (.int q) A = .ok (.bl (!decide (p = q))) A := by
  unfold oNe oB eqA; simp [pyA, PyData.eqv]; rfl
theorem z59 {s t : Str} : oEq (.str s) (.str t) A = .ok (.bl (decide (s = t))) A := by
  unfold oEq oB eqA; simp [pyA, PyData.eqv]; rfl
theorem z3k {s t : Str} : oNe (.str s) (.str t) A = .ok (.bl (!decide (s = t))) A := by
  unfold oNe oB eqA; simp [pyA, PyData.eqv]; rfl
theorem za5 {s t : String} : oEq (dS s) (dS t) A = .ok (.bl (decide (s = t))) A := by
  unfold dS; rw [z59]; congr 3; exact propext fS_inj
theorem z9m {s t : String} : oNe (dS s) (dS t) A = .ok (.bl (!decide (s = t))) A := by
  unfold dS; rw [z3k]; congr 4; exact propext fS_inj
theorem neA_of {b : Bool} (h : eqA A x y = some b) : oNe x y A = .ok (.bl (!b)) A := by unfold oNe oB; simp only [h]; rfl
theorem z3l : oIs x .non A = .ok (.bl (isNon x)) A := rfl
theorem z0g : oIsNot x .non A = .ok (.bl (!isNon x)) A := rfl
theorem z60 {b c : Bool} : oIs (.bl b) (.bl c) A = .ok (.bl (decide (b = c))) A := rfl
theorem z1e {b c : Bool} : oIsNot (.bl b) (.bl c) A = .ok (.bl (!decide (b = c))) A := rfl
theorem z0r : isNon .non = true := rfl
theorem z0z : isNon (.int p) = false := rfl
theorem z2k {b : Bool} : isNon (.bl b) = false := rfl
theorem z1o : isNon (.ref i) = false := rfl
theorem z16 : isNon (.tup l) = false := rfl
theorem z1g {s : Str} : isNon (.str s) = false := rfl
theorem z27 {s : String} : isNon (dS s) = false := rfl
theorem z0q : isNon (.exc C) = false := rfl
theorem z12 : oIsi os xs tb (.int p) (.ty "int") A = .ok (.bl true) A := rfl
theorem z0n : oIsi os xs tb (.int p) (.ty "bool") A = .ok (.bl false) A := rfl
theorem z1l {b : Bool} : oIsi os xs tb (.bl b) (.ty "int") A = .ok (.bl true) A := rfl
theorem z0k {b : Bool} : oIsi os xs tb (.bl b) (.ty "bool") A = .ok (.bl true) A := rfl
theorem z19 : oIsi os xs tb .non (.ty "int") A = .ok (.bl false) A := rfl
theorem z0m : oIsi os xs tb .non (.ty "bool") A = .ok (.bl false) A := rfl
theorem z15 : oIsi os xs tb .non (.ty "str") A = .ok (.bl false) A := rfl
theorem z03 : oIsi os xs tb .non (.ty "tuple") A = .ok (.bl false) A := rfl
theorem z0f : oIsi os xs tb .non (.ty "list") A = .ok (.bl false) A := rfl
theorem z1i {s : Str} : oIsi os xs tb (.str s) (.ty "int") A = .ok (.bl false) A := rfl
theorem z09 {s : Str} : oIsi os xs tb (.str s) (.ty "bool") A = .ok (.bl false) A := rfl
theorem z1j {s : Str} : oIsi os xs tb (.str s) (.ty "str") A = .ok (.bl true) A := rfl
theorem z07 {s : Str} : oIsi os xs tb (.str s) (.ty "tuple") A = .ok (.bl false) A := rfl
theorem z0y : oIsi os xs tb (.tup l) (.ty "int") A = .ok (.bl false) A := rfl
theorem z0a : oIsi os xs tb (.tup l) (.ty "bool") A = .ok (.bl false) A := rfl
theorem z05 : oIsi os xs tb (.tup l) (.ty "tuple") A = .ok (.bl true) A := rfl
theorem z0b : oIsi os xs tb (.tup l) (.ty "list") A = .ok (.bl false) A := rfl
theorem z13 : oIsi os xs tb (.tup l) (.ty "str") A = .ok (.bl false) A := rfl
theorem z06 : oIsi os xs tb (.int p) (.ty "tuple") A = .ok (.bl false) A := rfl
theorem z0u : oIsi os xs tb (.int p) (.ty "str") A = .ok (.bl false) A := rfl
theorem z0e : oIsi os xs tb (.int p) (.ty "list") A = .ok (.bl false) A := rfl
theorem z01 {b : Bool} : oIsi os xs tb (.bl b) (.ty "tuple") A = .ok (.bl false) A := rfl
theorem z18 {b : Bool} : oIsi os xs tb (.bl b) (.ty "str") A = .ok (.bl false) A := rfl
/-! the heap -/
theorem z2j : seqL A (.scr l) = some l := rfl
theorem z1r : seqL A (.tup l) = none := rfl
theorem z1u {s : Str} : seqL A (.str s) = none := rfl
theorem z7m : oLen (.tup l) A = .ok (.int l.length) A := rfl
theorem z5m {s : Str} (h : s.length ≤ 16000000) : oLen (.str s) A = .ok (.int s.length) A := by
  unfold oLen lenA; simp only [seqL, seqT]; rw [if_pos (z0o h)]
theorem z26 : oTuple (.tup l) A = .ok (.tup l) A := rfl
theorem z46 : oList (.tup l) A = .ok (.ref A.length) (A ++ [.lst l]) := rfl
theorem z90 {lo hi : Option Int} : oSl (.tup l) lo hi A = .ok (.tup (cutD l lo hi)) A := rfl
def fld_ (r : Option D) (A : Hs) : RE D := match r with
  | some d => .ok d A
  | none => .stuck
theorem z2s : fld_ (some d) A = .ok d A := rfl
theorem za0 {f : String} : eFld cs f a env A = (a env A).bind fun x A1 => fld_ (getFld cs f A1 x) A1 := rfl
theorem zbm {f : String} : sFl cs f o a env A = ofE env (a env A) fun d A1 => ofE env (o env A1) fun x A2 => ofH env (setFld cs A2 x f d) := by
  unfold sFl ofH; rfl
theorem z25 : ofH env (some A) = .nx env A := rfl
theorem z50 {f : String} {op : D → D → Hs → RE D} : sFlAug cs f op o a env A = ofE env (o env A) fun x A1 => ofE env (fld_ (getFld cs f A1 x) A1) fun v A1 => ofE env (a env A1) fun y A2 => ofE env (op v y A2) fun z A3 => ofH env (setFld cs A3 x f z) := by
  unfold sFlAug ofH
  congr
  funext x A1
  cases getFld cs f A1 x <;> rfl
theorem z2b {f : String} : putF f d [] = [(f, d)] := rfl
theorem z1k {f g : String} : putF f d ((g, x) :: fs) = if g = f then (g, d) :: fs else (g, x) :: putF f d fs := rfl
theorem z4j : oIAdd (.int p) (.int q) A = .ok (.int (p + q)) A := rfl
def meth_ (r : Option Fn) (k : Fn → RE D) : RE D := match r with
  | some f => k f
  | none => .stuck
theorem z1c {k : Fn → RE D} : meth_ (some F) k = k F := rfl
theorem z5s {m : String} {t : List (String × Fn)} : eMeth m t o as env A = (o env A).bind fun x A1 => meth_ (methOf m t A1 x) fun f => (as env A1).bind fun ds A2 => f (x :: ds) A2 := by
  unfold eMeth meth_; rfl
theorem z4i {m : String} {t : List (String × Fn)} : eMeth0 m t o as env A = (o env A).bind fun x A1 => meth_ (methOf m t A1 x) fun f => (as env A1).bind fun ds A2 => (f (x :: ds) A2).noX := by
  unfold eMeth0 meth_; rfl
theorem make_ok {ds : List D} (h : F (.ref A.length :: ds) (A ++ [.obj C []]) = .ok .non A1) : make C F ds A = .ok (.ref A.length) A1 := by unfold make; rw [h]
theorem z5d : eMake C F as env A = (as env A).bind fun ds A1 => make C F ds A1 := rfl
theorem z3a : eMake0 C F as env A = (as env A).bind fun ds A1 => (make C F ds A1).noX := rfl
theorem z8i : sPut o b a env A = ofE env (a env A) fun v A1 => ofE env (o env A1) fun x A2 => ofE env (b env A2) fun y A3 => ofH env (setIt A3 x y v) := rfl
theorem z4v {s : String} : keyOk false (dS s) = true := rfl
theorem z3n : keyOk false (.int p) = true := rfl
theorem z73 {s t : String} : keq (dS s) (dS t) = decide (s = t) := by
  show decide (fS s = fS t) = decide (s = t)
  simp only [fS_inj]
theorem z7a : keq (.int p) (.int q) = decide (p = q) := rfl
def augL_ (env : Sl) (r : Option D) (k : D → RS) : RS := match r with
  | some z => k z
  | none => .stuck
theorem z0p {k : D → RS} : augL_ env (some d) k = k d := rfl
theorem z4f {op : D → D → Hs → RE D} : sLAugP op o b a env A = ofE env (o env A) fun x A1 => ofE env (b env A1) fun y A2 => augL_ env (getN A2 x y) fun z => ofE env (a env A2) fun v A4 => ofE env (op z v A4) fun r A5 => if isLst A5 x then ofH env (setIt A5 x y r) else .stuck := by
  unfold sLAugP augL_; rfl
theorem z3d {op : D → D → Hs → RE D} : sDAugP op o b a env A = ofE env (o env A) fun x A1 => ofE env (b env A1) fun y A2 => ofE env (oDGet x y A2) fun z A3 => ofE env (a env A3) fun v A4 => ofE env (op z v A4) fun r A5 => if isLst A5 x then .stuck else ofH env (setIt A5 x y r) := rfl
/-! methods of lists -/
theorem zb3 {o : D → List D → Hs → RE D} : eBL o a as env A = (a env A).bind fun x A1 => if (seqL A1 x).isSome then (as env A1).bind fun ds A2 => o x ds A2 else .stuck := rfl
theorem z8o {o : D → Hs → RE D} : eBL0 o a env A = (a env A).bind fun x A1 => if (seqL A1 x).isSome then o x A1 else .stuck := rfl
/-! walks -/
def ofW (env : Sl) (r : RE Wk) (k : Wk → Hs → RS) : RS := match r with
  | .ok w A => k w A
  | .exc C A => .exc C env A
  | .stuck => .stuck
theorem z5g {w : Wk} {k : Wk → Hs → RS} : ofW env (.ok w A) k = k w A := rfl
theorem za3 {w : Sl → Hs → RE Wk} {g : G} : sFor w g f env A = ofW env (w env A) fun k A1 => forL g f k.gd k.ds env A1 := by unfold sFor ofW; rfl
def wk_ (r : Option Wk) (A : Hs) : RE Wk := match r with
  | some k => .ok k A
  | none => .stuck
theorem z3b {w : Wk} : wk_ (some w) A = .ok w A := rfl
theorem zal {f : Hs → D → Option Wk} : wOf f a env A = (a env A).bind fun x A1 => wk_ (f A1 x) A1 := by unfold wOf wk_; rfl
theorem za6 : wSeq a env A = (a env A).bind fun x A1 => wk_ (wkA A1 x) A1 := zal
theorem zca {f : List D → Option Wk} : wAs f as env A = (as env A).bind fun x A1 => wk_ (f x) A1 := by unfold wAs wk_; rfl
theorem z35 : wkA A (.tup l) = some ⟨l, tt⟩ := rfl
theorem z52 : wkA A (.scr l) = some ⟨l, tt⟩ := rfl
theorem z48 : wkE A (.scr l) = some ⟨enumL l, tt⟩ := rfl
theorem zbj (h : -4611686018427387904 ≤ p ∧ p < 4611686018427387904) : rg1 [.int p] = some ⟨rgL 0 1 p.toNat, tt⟩ := by
  unfold rg1; simp only; rw [if_pos ⟨by have := h.1; omega, by have := h.2; omega⟩]
theorem zb5 (h : -4611686018427387904 ≤ p ∧ p < 4611686018427387904 ∧ -4611686018427387904 ≤ q ∧ q < 4611686018427387904) : rg2 [.int p, .int q] = some ⟨rgL p 1 (q - p).toNat, tt⟩ := by
  unfold rg2; simp only; rw [if_pos ⟨⟨by have := h.1; omega, by have := h.2.1; omega⟩, ⟨by have := h.2.2.1; omega, by have := h.2.2.2; omega⟩⟩]
theorem zau (h : -1152921504606846976 ≤ p ∧ p < 1152921504606846976 ∧ -1152921504606846976 ≤ q ∧ q < 1152921504606846976 ∧ 0 < r ∧ r < 1000000) : rg3 [.int p, .int q, .int r] = some ⟨rgL p r (cnt p q r), tt⟩ := by
  unfold rg3; simp only; rw [if_pos ⟨by have := h.1; omega, by have := h.2.1; omega, by have := h.2.2.1; omega, by have := h.2.2.2.1; omega, h.2.2.2.2.1, h.2.2.2.2.2⟩]
theorem forL_nil {g : G} {gd : Hs → Prop} (h : gd A) : forL g f gd [] env A = .nx env A := by unfold forL; rw [if_pos h]
def turnR (r : RS) (k : S) : RS := match r with
  | .nx e A => k e A
  | .ct e A => k e A
  | .bk e A => .nx e A
  | r => r
theorem z38 {k : S} : turnR (.nx env A) k = k env A := rfl
theorem z4n {k : S} : turnR (.ct env A) k = k env A := rfl
theorem z45 {k : S} : turnR (.rt d A) k = .rt d A := rfl
theorem z43 {k : S} : turnR (.bk env A) k = .nx env A := rfl
theorem z2h {k : S} : turnR (.exc C env A) k = .exc C env A := rfl
theorem forL_cons {g : G} {gd : Hs → Prop} (h : gd A) (hg : g d env A = some e1) : forL g f gd (d :: l) env A = turnR (f e1 A) (forL g f gd l) := by
  rw [forL]; rw [if_pos h, hg]; rfl
/-- a for by what stays true -/
theorem for_inv {g : G} {gd : Hs → Prop} (I : Nat → Sl → Hs → Prop) (R : RS → Prop) {ds : List D} (h0 : I 0 env A) (hg : ∀ i e A, i ≤ ds.length → I i e A → gd A)
    (hs : ∀ i e A d, ds[i]? = some d → I i e A → ∃ e1, g d e A = some e1 ∧ ((∃ e2 A2, (f e1 A = .nx e2 A2 ∨ f e1 A = .ct e2 A2) ∧ I (i + 1) e2 A2) ∨ (∃ d2 A2, f e1 A = .rt d2 A2 ∧ R (.rt d2 A2)) ∨ (∃ e2 A2, f e1 A = .bk e2 A2 ∧ R (.nx e2 A2)) ∨ (∃ C e2 A2, f e1 A = .exc C e2 A2 ∧ R (.exc C e2 A2))))
    (hd : ∀ e A, I ds.length e A → R (.nx e A)) : R (forL g f gd ds env A) := by
  have main : ∀ (m : Nat) (e : Sl) (A : Hs), m ≤ ds.length → I m e A → R (forL g f gd (ds.drop m) e A) := by
    intro m
    generalize hk : ds.length - m = k
    induction k generalizing m with
    | zero =>
      intro e A hm hI
      have : m = ds.length := by omega
      subst this
      rw [List.drop_length, forL_nil (hg _ _ _ hm hI)]
      exact hd e A hI
    | succ k ih =>
      intro e A hm hI
      have hlt : m < ds.length := by omega
      rw [List.drop_eq_getElem_cons hlt]
      obtain ⟨e1, h1, h2⟩ := hs m e A ds[m] (by simp [hlt]) hI
      rw [forL_cons (hg _ _ _ hm hI) h1]
      rcases h2 with ⟨e2, A2, h2, h3⟩ | ⟨d2, A2, h2, h3⟩ | ⟨e2, A2, h2, h3⟩ | ⟨C, e2, A2, h2, h3⟩
      · rcases h2 with h2 | h2
        · rw [h2, z38]; exact ih (m + 1) (by omega) e2 A2 (by omega) h3
        · rw [h2, z4n]; exact ih (m + 1) (by omega) e2 A2 (by omega) h3
      · rw [h2]; exact h3
      · rw [h2]; exact h3
      · rw [h2]; exact h3
  have := main 0 env A (Nat.zero_le _) h0
  rwa [List.drop_zero] at this
def lc_ (r : RE (List D)) : RE D := match r with
  | .ok l A2 => alloc A2 (.lst l)
  | _ => .stuck
theorem za1 : lc_ (.ok l A) = .ok (.ref A.length) (A ++ [.lst l]) := rfl
theorem zbc {w : Sl → Hs → RE Wk} {g : G} {t : Tt} {vs : List Nat} : eLc w g t a vs env A = (w env A).bind fun k A1 => lc_ (lcL g t a k.gd (wipeS env vs) k.ds [] A1) := by unfold eLc lc_; rfl
/-- a comprehension whose parts leave the heap as it is -/
theorem lc_pure {g : G} {t : Tt} {gd : Hs → Prop} (p : D → Bool) (h : D → D) {ds acc : List D} (hgd : gd A) (hl : acc.length + ds.length < 16000000)
    (hs : ∀ d ∈ ds, ∃ e1, g d env A = some e1 ∧ t e1 A = .ok (p d) A ∧ (p d = true → a e1 A = .ok (h d) A)) : lcL g t a gd env ds acc A = .ok (acc ++ (ds.filter p).map h) A := by
  induction ds generalizing acc with
  | nil => rw [lcL, if_pos hgd]; simp
  | cons d ds ih =>
    obtain ⟨e1, h1, h2, h3⟩ := hs d List.mem_cons_self
    rw [lcL, if_pos hgd, h1]
    simp only [h2]
    cases q : p d with
    | false =>
      simp only
      rw [ih (by rw [List.length_cons] at hl; omega) fun d' hd => hs d' (List.mem_cons_of_mem _ hd), List.filter_cons, q]
      rfl
    | true =>
      simp only [h3 q]
      rw [if_pos (small_line' (by rw [List.length_cons] at hl; omega)), ih (by rw [List.length_cons] at hl; rw [List.length_append, List.length_singleton]; omega) fun d' hd => hs d' (List.mem_cons_of_mem _ hd), List.filter_cons, q]
      simp
end
end SM

/-! ## frames, equal data, slices -/
namespace SM
open PySem L2
section
variable {α β : Type} {A A1 A2 A3 : Hs} {env e1 e2 : Sl} {a b c o v : E} {as : As} {d d1 d2 x y z : D} {i j k n : Nat} {p q r : Int} {C : String} {f g : S} {F : Fn} {cs os xs : List String} {tb : List (String × String × Bool)} {l l1 l2 : List D} {fs : List (String × D)} {s s1 s2 : List Nat} {u u1 u2 : O}
/-- what a piece of code leaves alone -/
def Fr (s : List Nat) (A A1 : Hs) : Prop := A.length ≤ A1.length ∧ ∀ j, j < A.length → j ∉ s → A1[j]? = A[j]?
theorem Fr.refl : Fr s A A := ⟨Nat.le_refl _, fun _ _ _ => rfl⟩
theorem Fr.trans (h : Fr s A A1) (k : Fr s A1 A2) : Fr s A A2 := ⟨Nat.le_trans h.1 k.1, fun j hj hn => (k.2 j (Nat.lt_of_lt_of_le hj h.1) hn).trans (h.2 j hj hn)⟩
theorem Fr.mono (h : Fr s A A1) (hs : ∀ j ∈ s, j ∈ s2) : Fr s2 A A1 := ⟨h.1, fun j hj hn => h.2 j hj fun h3 => hn (hs j h3)⟩
theorem lt_of_get {α : Type} {A : List α} {u : α} (h : A[i]? = some u) : i < A.length := by
  rcases Nat.lt_or_ge i A.length with h1 | h1
  · exact h1
  · rw [List.getElem?_eq_none h1] at h; cases h
theorem Fr.get (h : Fr s A A1) (g : A[j]? = some u) (hn : j ∉ s) : A1[j]? = some u := (h.2 j (lt_of_get g) hn).trans g
theorem Fr.le (h : Fr s A A1) : A.length ≤ A1.length := h.1
theorem Fr.set (h : i ∈ s) : Fr s A (A.set i u) := ⟨by simp, fun j hj hn => List.getElem?_set_ne fun (e : i = j) => hn (e ▸ h)⟩
theorem Fr.push : Fr s A (A ++ [u]) := ⟨by simp, fun j hj hn => by rw [List.getElem?_append_left hj]⟩
theorem Fr.then_set (h : Fr s A A1) (hi : i ∈ s ∨ A.length ≤ i) : Fr s A (A1.set i u) := ⟨by simpa using h.1, fun j hj hn => by
  rw [List.getElem?_set_ne fun (e : i = j) => hi.elim (fun h2 => hn (e ▸ h2)) fun h2 => by omega]
  exact h.2 j hj hn⟩
theorem Fr.then_push (h : Fr s A A1) : Fr s A (A1 ++ [u]) := h.trans .push
theorem get_push (h : A[j]? = some u1) : (A ++ [u])[j]? = some u1 := (List.getElem?_append_left (lt_of_get h)).trans h
theorem z2c : (A.set i u).set i u1 = A.set i u1 := List.set_set ..
theorem z4h : (A.set i u).length = A.length := by simp
/-! data without a heap -/
def pd : Nat → D → Bool
  | _, .non => true
  | _, .bl _ => true
  | _, .int _ => true
  | _, .str _ => true
  | n + 1, .tup l => l.all (pd n)
  | n + 1, .scr l => l.all (pd n)
  | n + 1, .wt l => l.all (pd n)
  | _, _ => false
theorem pd_int : pd n (.int p) = true := by cases n <;> rfl
theorem pd_py : ∀ {n : Nat} {d : D}, pd n d = true → ∃ p, p.plain = true ∧ ∀ A, pyA A n d = some p := by
  intro n
  induction n with
  | zero =>
    intro d h
    cases d with
    | non => exact ⟨.none, rfl, fun A => by simp [pyA]⟩
    | bl b => exact ⟨.bool b, rfl, fun A => by simp [pyA]⟩
    | int b => exact ⟨.int b, rfl, fun A => by simp [pyA]⟩
    | str b => exact ⟨.str b, rfl, fun A => by simp [pyA]⟩
    | _ => cases h
  | succ n ih =>
    have all : ∀ {l : List D}, l.all (pd n) = true → ∃ ps, PyData.plainAll ps = true ∧ ∀ A, allSome (l.map (pyA A n)) = some ps := by
      intro l
      induction l with
      | nil => intro _; exact ⟨[], rfl, fun A => rfl⟩
      | cons d l il =>
        intro h
        rw [List.all_cons, Bool.and_eq_true] at h
        obtain ⟨p, h0, h1⟩ := ih h.1
        obtain ⟨ps, h2, h3⟩ := il h.2
        refine ⟨p :: ps, by simp [PyData.plainAll, h0, h2], fun A => ?_⟩
        rw [List.map_cons, h1 A, allSome, h3 A]; rfl
    intro d h
    cases d with
    | tup l =>
      obtain ⟨ps, h1, h2⟩ := all h
      exact ⟨.tuple ps, by simpa [PyData.plain] using h1, fun A => by rw [pyA, h2 A]; rfl⟩
    | wt l =>
      obtain ⟨ps, h1, h2⟩ := all h
      exact ⟨.tuple ps, by simpa [PyData.plain] using h1, fun A => by rw [pyA, h2 A]; rfl⟩
    | scr l =>
      obtain ⟨ps, h1, h2⟩ := all h
      exact ⟨.list ps, by simpa [PyData.plain] using h1, fun A => by rw [pyA, h2 A]; rfl⟩
    | non => exact ⟨.none, rfl, fun A => by simp [pyA]⟩
    | bl b => exact ⟨.bool b, rfl, fun A => by simp [pyA]⟩
    | int b => exact ⟨.int b, rfl, fun A => by simp [pyA]⟩
    | str b => exact ⟨.str b, rfl, fun A => by simp [pyA]⟩
    | _ => cases h
theorem pd_all : ∀ {l : List D}, l.all (pd n) = true → ∃ ps, PyData.plainAll ps = true ∧ ∀ A, allSome (l.map (pyA A n)) = some ps := by
  intro l
  induction l with
  | nil => intro _; exact ⟨[], rfl, fun A => rfl⟩
  | cons d l il =>
    intro h
    rw [List.all_cons, Bool.and_eq_true] at h
    obtain ⟨p, h0, h1⟩ := pd_py h.1
    obtain ⟨ps, h2, h3⟩ := il h.2
    refine ⟨p :: ps, by simp [PyData.plainAll, h0, h2], fun A => ?_⟩
    rw [List.map_cons, h1 A, allSome, h3 A]; rfl
/-- two values that read the same -/
theorem eqA_same {P : PyData} (hp : P.plain = true) (h : pyA A 40 x = some P) (k : pyA A 40 y = some P) : eqA A x y = some true := by
  unfold eqA; rw [h, k]; simp only; rw [PySem.SeqAt.eqv_refl_plain _ hp]
theorem py_lst (h : A[i]? = some (.lst l)) : pyA A (n + 1) (.ref i) = (allSome (l.map (pyA A n))).map .list := by
  rw [pyA]; simp only [h]
theorem eqA_lst (h : A[i]? = some (.lst l)) (k : A[j]? = some (.lst l)) (hp : l.all (pd 39) = true) : eqA A (.ref i) (.ref j) = some true := by
  obtain ⟨ps, h1, h2⟩ := pd_all hp
  refine eqA_same (P := .list ps) (by simpa [PyData.plain] using h1) ?_ ?_
  · rw [py_lst h, h2 A]; rfl
  · rw [py_lst k, h2 A]; rfl
theorem oNe_lst (h : A[i]? = some (.lst l)) (k : A[j]? = some (.lst l)) (hp : l.all (pd 39) = true) : oNe (.ref i) (.ref j) A = .ok (.bl false) A := neA_of (eqA_lst h k hp)
/-! slices -/
theorem sIx_some {n d : Nat} {v : Int} (h : 0 ≤ v) : HT.sIx n d (some v) = min v.toNat n := by
  obtain ⟨k, rfl⟩ := Int.eq_ofNat_of_zero_le h
  exact HT.sIx_nat n d k
theorem z5t {l : List α} : cutD l none none = l := by
  unfold cutD; rw [HT.sIx_none, HT.sIx_none]; simp
theorem z7f {l : List α} (h : 0 ≤ p) : cutD l none (some p) = l.take p.toNat := by
  unfold cutD; rw [HT.sIx_none, sIx_some h]
  rw [List.drop_zero, Nat.sub_zero, List.take_eq_take_iff]; omega
theorem z71 {l : List α} (h : 0 ≤ p) : cutD l (some p) none = l.drop p.toNat := by
  unfold cutD; rw [HT.sIx_none, sIx_some h]
  rcases Nat.le_total p.toNat l.length with q | q
  · rw [Nat.min_eq_left q, List.take_of_length_le (by rw [List.length_drop]; omega)]
  · rw [Nat.min_eq_right q, List.drop_of_length_le (Nat.le_refl _), List.drop_of_length_le q]; simp
theorem z75 {l : List α} (h : 0 ≤ p) (k : 0 ≤ q) : cutD l (some p) (some q) = (l.drop p.toNat).take (q.toNat - p.toNat) := by
  unfold cutD; rw [sIx_some h, sIx_some k]
  rcases Nat.le_total p.toNat l.length with r | r
  · rw [Nat.min_eq_left r, List.take_eq_take_iff, List.length_drop]; omega
  · rw [Nat.min_eq_right r, List.drop_of_length_le (Nat.le_refl _), List.drop_of_length_le r]; simp
theorem z7i {l : List α} (h : 0 ≤ p) : atI l p = l[p.toNat]? := by
  unfold atI ixN
  rw [if_pos h]
  by_cases k : p < l.length
  · rw [if_pos k]; rfl
  · rw [if_neg k, List.getElem?_eq_none (by omega)]; rfl
theorem ixN_nat (h : 0 ≤ p) (k : p < (n : Int)) : ixN n p = some p.toNat := by
  unfold ixN; rw [if_pos h, if_pos k]
theorem mem_rgL {lo c : Int} {n : Nat} (h : d ∈ rgL lo c n) : ∃ i : Nat, i < n ∧ d = .int (lo + i * c) := by
  unfold rgL at h; obtain ⟨i, hi, rfl⟩ := List.mem_map.mp h; exact ⟨i, List.mem_range.mp hi, rfl⟩
end
end SM

/-! ## the same, as rules that only compute (the heap's places are looked up in the term) -/
namespace SM
open PySem L2
section
variable {α β : Type} {A A1 A2 A3 : Hs} {env e1 e2 : Sl} {a b c o v : E} {as : As} {d d1 d2 x y z w : D} {i j k n : Nat} {p q r : Int} {C m : String} {f g : S} {F : Fn} {cs os xs : List String} {tb : List (String × String × Bool)} {l l1 l2 : List D} {fs : List (String × D)} {u u1 u2 : O} {lo hi : Option Int} {t lk : Bool} {kv : List (D × D)}
def sq_ : Option O → Option (List D)
  | some (.lst l) => some l
  | _ => none
theorem zb7 : sq_ (some (.lst l)) = some l := rfl
theorem z6n : seqL A (.ref i) = sq_ A[i]? := by unfold seqL sq_; rfl
theorem z3s : lstAt A (.ref i) = (sq_ A[i]?).map fun l => (i, l) := by
  unfold lstAt sq_
  rcases h : A[i]? with _ | u
  · simp only [h]; rfl
  · cases u <;> simp only [h] <;> rfl
theorem za8 {α β : Type} {f : α → β} {x : α} : (some x).map f = some (f x) := rfl
def ob_ : Option O → Option (String × List (String × D))
  | some (.obj C fs) => some (C, fs)
  | _ => none
theorem zbk : ob_ (some (.obj C fs)) = some (C, fs) := rfl
theorem z55 : objAt A (.ref i) = ob_ A[i]? := by unfold objAt ob_; rfl
def gf_ (cs : List String) (f : String) : Option (String × List (String × D)) → Option D
  | some (C, fs) => if C ∈ cs then fs.lookup f else none
  | none => none
theorem zc6 {f : String} : gf_ cs f (some (C, fs)) = if C ∈ cs then fs.lookup f else none := rfl
theorem z2o {f : String} : getFld cs f A x = gf_ cs f (objAt A x) := by unfold getFld gf_; rfl
def sf_ (cs : List String) (A : Hs) (i : Nat) (f : String) (d : D) : Option (String × List (String × D)) → Option Hs
  | some (C, fs) => if C ∈ cs ∧ fs.length < 999 then some (A.set i (.obj C (putF f d fs))) else none
  | none => none
theorem zbx {f : String} : sf_ cs A i f d (some (C, fs)) = if C ∈ cs ∧ fs.length < 999 then some (A.set i (.obj C (putF f d fs))) else none := rfl
theorem z2t {f : String} : setFld cs A (.ref i) f d = sf_ cs A i f d (ob_ A[i]?) := by
  unfold setFld
  rcases h : A[i]? with _ | u
  · simp only [h]; rfl
  · cases u <;> simp only [h] <;> rfl
def mo_ (m : String) (t : List (String × Fn)) : Option (String × List (String × D)) → Option Fn
  | some (C, fs) => if (fs.lookup m).isSome = true then none else t.lookup C
  | none => none
theorem zan {t : List (String × Fn)} : mo_ m t (some (C, fs)) = if (fs.lookup m).isSome = true then none else t.lookup C := rfl
theorem z2n {t : List (String × Fn)} : methOf m t A x = mo_ m t (objAt A x) := by
  unfold methOf mo_; rfl
theorem z2v {β : Type} {f : String} : List.lookup f ([] : List (String × β)) = none := rfl
theorem z17 {β : Type} {f g : String} {x : β} {r : List (String × β)} : List.lookup f ((g, x) :: r) = if f = g then some x else List.lookup f r := by
  by_cases h : f = g
  · rw [if_pos h]; subst h; simp
  · rw [if_neg h, List.lookup, beq_false_of_ne h]
def at_ (A : Hs) : Option D → RE D
  | some d => .ok d A
  | none => .stuck
theorem zbi : at_ A (some d) = .ok d A := rfl
def ln_ (A : Hs) : Option O → RE D
  | some (.lst l) => .ok (.int l.length) A
  | some (.dic false false l) => .ok (.int l.length) A
  | _ => .stuck
theorem zbp : ln_ A (some (.lst l)) = .ok (.int l.length) A := rfl
theorem zav : ln_ A (some (.dic false false kv)) = .ok (.int kv.length) A := rfl
theorem z5w : oLen (.ref i) A = ln_ A A[i]? := by
  unfold oLen lenA; rw [z6n]
  simp only [seqT]
  rcases A[i]? with _ | u
  · rfl
  · cases u with
    | lst l => rfl
    | obj C f => rfl
    | nd _ => rfl
    | dic t lk kv => cases t <;> cases lk <;> rfl
theorem z21 : oLen (.scr l) A = .ok (.int l.length) A := rfl
def ix_ (A : Hs) (p : Int) : Option (List D) → RE D
  | some l => at_ A (atI l p)
  | none => .stuck
theorem zbs : ix_ A p (some l) = at_ A (atI l p) := rfl
theorem z8e : oIx (.ref i) (.int p) A = ix_ A p (sq_ A[i]?) := by
  unfold oIx; simp only [z6n]
  rcases h : sq_ A[i]? with _ | l
  · rfl
  · show (match atI l p with | some d => RE.ok d A | none => .stuck) = at_ A (atI l p)
    cases atI l p <;> rfl
theorem z3r : oIx (.scr l) (.int p) A = at_ A (atI l p) := by
  unfold oIx; simp only [seqL]; unfold at_; cases atI l p <;> rfl
theorem z4c : oIx (.tup l) (.int p) A = at_ A (atI l p) := by
  unfold oIx seqT; simp only [z1r]; unfold at_; cases atI l p <;> rfl
def nw_ (A : Hs) : Option (List D) → RE D
  | some l => .ok (.ref A.length) (A ++ [.lst l])
  | none => .stuck
theorem zaz : nw_ A (some l) = .ok (.ref A.length) (A ++ [.lst l]) := rfl
theorem z7x : oSl (.ref i) lo hi A = nw_ A ((sq_ A[i]?).map fun l => cutD l lo hi) := by
  unfold oSl; rw [z6n]; cases sq_ A[i]? <;> rfl
theorem z4s : oSl (.scr l) lo hi A = .ok (.ref A.length) (A ++ [.lst (cutD l lo hi)]) := rfl
theorem z3o : oList (.ref i) A = nw_ A (sq_ A[i]?) := by
  unfold oList; rw [z6n]; cases sq_ A[i]? <;> rfl
theorem z1p : oList (.scr l) A = .ok (.ref A.length) (A ++ [.lst l]) := rfl
theorem z6w : oRev (.ref i) A = nw_ A ((sq_ A[i]?).map List.reverse) := by
  unfold oRev; rw [z6n]; cases sq_ A[i]? <;> rfl
def tp_ (A : Hs) : Option (List D) → RE D
  | some l => .ok (.tup l) A
  | none => .stuck
theorem zb4 : tp_ A (some l) = .ok (.tup l) A := rfl
theorem z23 : oTuple (.ref i) A = tp_ A (sq_ A[i]?) := by
  unfold oTuple; rw [z6n]; cases sq_ A[i]? <;> rfl
theorem z0j : oTuple (.scr l) A = .ok (.tup l) A := rfl
def ap_ (A : Hs) (i : Nat) (l1 : List D) : Option (List D) → RE D
  | some l => if l.length + l1.length ≤ sizeLine then .ok .non (A.set i (.lst (l ++ l1))) else .stuck
  | none => .stuck
theorem zbr (h : l.length + l1.length ≤ 16000000) : ap_ A i l1 (some l) = .ok .non (A.set i (.lst (l ++ l1))) := if_pos (z0o h)
theorem z10 : oAppend (.ref i) [d] A = ap_ A i [d] (sq_ A[i]?) := by
  unfold oAppend; rw [z3s]
  rcases sq_ A[i]? with _ | l
  · rfl
  · simp only [za8, ap_, List.length_singleton]; rfl
theorem z08 : oExtend (.ref i) [.tup l1] A = ap_ A i l1 (sq_ A[i]?) := by
  unfold oExtend; rw [z3s]
  rcases sq_ A[i]? with _ | l
  · rfl
  · simp only [za8, lstAt]; rfl
def ex_ (A : Hs) (i : Nat) (r : Option (List D)) : Option (List D) → RE D
  | some l1 => ap_ A i l1 r
  | none => .stuck
theorem zbf {r : Option (List D)} : ex_ A i r (some l1) = ap_ A i l1 r := rfl
theorem z0c : oExtend (.ref i) [.ref j] A = ex_ A i (sq_ A[i]?) (sq_ A[j]?) := by
  unfold oExtend
  rcases h : sq_ A[i]? with _ | l
  · rcases h2 : sq_ A[j]? with _ | l1 <;> simp only [z3s, h, Option.map] <;> rfl
  · rcases h2 : sq_ A[j]? with _ | l1 <;> simp only [z3s, h, h2, Option.map] <;> rfl
def cl_ (A : Hs) (i : Nat) : Option (List D) → RE D
  | some _ => .ok .non (A.set i (.lst []))
  | none => .stuck
theorem zam : cl_ A i (some l) = .ok .non (A.set i (.lst [])) := rfl
theorem z22 : oClear (.ref i) A = cl_ A i (sq_ A[i]?) := by
  unfold oClear; rw [z3s]; cases sq_ A[i]? <;> rfl
def si_ (A : Hs) (i : Nat) (y v : D) (u : Option O) : Option Hs := match u with
    | some (.lst l) => match y with
      | .int k => match ixN l.length k with
        | some n => some (A.set i (.lst (l.set n v)))
        | none => none
      | _ => none
    | some (.dic t false l) => if keyOk t y && decide (l.length < sizeLine) then some (A.set i (.dic t false (kput l y v))) else none
    | _ => none
theorem z3j : setIt A (.ref i) y z = si_ A i y z A[i]? := rfl
theorem zbt (h : 0 ≤ p ∧ p < (l.length : Int)) : si_ A i (.int p) z (some (.lst l)) = some (A.set i (.lst (l.set p.toNat z))) := by
  unfold si_; simp only [ixN_nat h.1 h.2]
theorem zay (h : kv.length < 16000000) : si_ A i y z (some (.dic t false kv)) = if keyOk t y = true then some (A.set i (.dic t false (kput kv y z))) else none := by
  unfold si_; simp only [decide_eq_true (small_line' h), Bool.and_true]
def gn_ (p : Int) : Option (List D) → Option D
  | some l => if 0 ≤ p then l[p.toNat]? else none
  | none => none
theorem zc4 : gn_ p (some l) = if 0 ≤ p then l[p.toNat]? else none := rfl
theorem z5x : getN A (.ref i) (.int p) = gn_ p (sq_ A[i]?) := by
  unfold getN; rw [z6n]; cases sq_ A[i]? <;> rfl
def il_ : Option O → Bool
  | some (.lst _) => true
  | _ => false
theorem zaq : il_ (some (.lst l)) = true := rfl
theorem zbv : il_ (some (.dic t lk kv)) = false := rfl
theorem z3w : isLst A (.ref i) = il_ A[i]? := by unfold isLst il_; rfl
def dg_ (A : Hs) (y : D) : Option O → RE D
  | some (.dic t _ kv) => if keyOk t y = true then at_ A (kget kv y) else .stuck
  | _ => .stuck
theorem zad : dg_ A y (some (.dic t lk kv)) = if keyOk t y = true then at_ A (kget kv y) else .stuck := rfl
theorem z4m : oDGet (.ref i) y A = dg_ A y A[i]? := by
  unfold oDGet dicAt
  rcases h : A[i]? with _ | u
  · simp only [h]; rfl
  · cases u with
    | dic t lk kv => simp only [h, dg_]; unfold at_; split <;> first | rfl | (cases kget kv y <;> rfl)
    | _ => simp only [h]; rfl
def wl_ (A : Hs) (i : Nat) : Option O → Option Wk
  | some (.lst l) => some ⟨l, fun A' => A'[i]? = some (.lst l)⟩
  | _ => none
theorem zbh : wl_ A i (some (.lst l)) = some ⟨l, fun A' => A'[i]? = some (.lst l)⟩ := rfl
theorem z9n : wkA A (.ref i) = wl_ A i A[i]? := by
  unfold wkA wkL wl_
  rcases h : A[i]? with _ | u
  · simp only [h]
  · cases u <;> simp only [h]
def we_ (A : Hs) (i : Nat) : Option O → Option Wk
  | some (.lst l) => some ⟨enumL l, fun A' => A'[i]? = some (.lst l)⟩
  | _ => none
theorem zb1 : we_ A i (some (.lst l)) = some ⟨enumL l, fun A' => A'[i]? = some (.lst l)⟩ := rfl
theorem z9o : wkE A (.ref i) = we_ A i A[i]? := by
  unfold wkE wkL we_
  rcases h : A[i]? with _ | u
  · simp only [h]; rfl
  · cases u <;> simp only [h] <;> rfl
/-! lists of truths, numbers -/
def al_ (A : Hs) : Option (List Bool) → RE D
  | some bs => .ok (.bl (bs.all id)) A
  | none => .stuck
theorem zar {bs : List Bool} : al_ A (some bs) = .ok (.bl (bs.all id)) A := rfl
theorem z7r : oAll x A = al_ A ((seqL A x).bind boolsOf) := by unfold oAll al_; rfl
def sm_ (A : Hs) : Option (List Int) → RE D
  | some bs => .ok (.int bs.sum) A
  | none => .stuck
theorem zah {ns : List Int} : sm_ A (some ns) = .ok (.int ns.sum) A := rfl
theorem z6z : oSum x A = sm_ A ((seqL A x).bind intsOf) := by unfold oSum sm_; rfl
theorem z41 {α β : Type} {f : α → Option β} {x : α} : (some x).bind f = f x := rfl
/-! places -/
theorem zbu (h : i < A.length) : (A.set i u)[i]? = some u := List.getElem?_set_self h
theorem z42 (h : i ≠ j) : (A.set i u)[j]? = A[j]? := List.getElem?_set_ne h
theorem za9 (h : j < A.length) : (A ++ [u])[j]? = A[j]? := List.getElem?_append_left h
theorem zc5 : (A ++ [u])[A.length]? = some u := by simp
theorem z7z (h : j = A.length) : (A ++ [u])[j]? = some u := by subst h; simp
theorem z24 : (A ++ [u]).length = A.length + 1 := by simp
theorem z1y : kget [] y = none := rfl
theorem z1n : kget ((x, z) :: kv) y = if keq x y = true then some z else kget kv y := by rw [kget]
theorem zbn : il_ (some (.obj C fs)) = false := rfl
theorem z8n : (Wk.mk l tt).gd = tt := rfl
theorem z8k {gd : Hs → Prop} : (Wk.mk l gd).ds = l := rfl
theorem z8l {gd : Hs → Prop} : (Wk.mk l gd).gd = gd := rfl
theorem z1z : wipeS env [] = env := rfl
theorem z0v {vs : List Nat} : wipeS env (i :: vs) = (wipeS env vs).set i none := by rw [wipeS]
/-- a result, by what holds of it -/
def Rk {α : Type} (r : RE α) (P : α → Hs → Prop) : Prop := match r with
  | .ok v A => P v A
  | _ => False
theorem z80 {α : Type} {x : α} {P : α → Hs → Prop} : Rk (.ok x A) P = P x A := rfl
theorem Rk.ex {α : Type} {r : RE α} {P : α → Hs → Prop} (h : Rk r P) : ∃ v A1, r = .ok v A1 ∧ P v A1 := by
  cases r with
  | ok v A1 => exact ⟨v, A1, rfl, h⟩
  | _ => exact h.elim
theorem Rk.of {α : Type} {r : RE α} {P : α → Hs → Prop} {x : α} (e : r = .ok x A) (h : P x A) : Rk r P := by rw [e]; exact h
theorem Rk.mono {α : Type} {r : RE α} {P P2 : α → Hs → Prop} (h : Rk r P) (k : ∀ v A, P v A → P2 v A) : Rk r P2 := by
  obtain ⟨v, A1, e, p⟩ := h.ex
  exact .of e (k v A1 p)
theorem Rk.make {P : D → Hs → Prop} {ds : List D} (h : Rk (F (.ref A.length :: ds) (A ++ [.obj C []])) fun v A1 => v = .non ∧ P (.ref A.length) A1) : Rk (make C F ds A) P := by
  obtain ⟨v, A1, e, rfl, p⟩ := h.ex
  exact .of (make_ok e) p
/-- a call in the goal, by what is known of it -/
theorem Rk.call {α : Type} {r : RE α} {P : α → Hs → Prop} (Q : RE α → Prop) (h : Rk r P) (k : ∀ v A1, P v A1 → Q (.ok v A1)) : Q r := by
  obtain ⟨v, A1, e, p⟩ := h.ex
  rw [e]; exact k v A1 p
/-- one turn of a loop: J where it goes on, R where the loop ends -/
def Trn (J : Sl → Hs → Prop) (R : RS → Prop) (r : RS) : Prop := match r with
  | .nx e A => J e A
  | .ct e A => J e A
  | .rt d A => R (.rt d A)
  | .bk e A => R (.nx e A)
  | .exc C e A => R (.exc C e A)
  | .stuck => False
theorem z9l {J : Sl → Hs → Prop} {R : RS → Prop} : Trn J R (.nx env A) = J env A := rfl
theorem z9v {J : Sl → Hs → Prop} {R : RS → Prop} : Trn J R (.ct env A) = J env A := rfl
theorem z98 {J : Sl → Hs → Prop} {R : RS → Prop} : Trn J R (.rt d A) = R (.rt d A) := rfl
theorem z96 {J : Sl → Hs → Prop} {R : RS → Prop} : Trn J R (.bk env A) = R (.nx env A) := rfl
theorem z6o {J : Sl → Hs → Prop} {R : RS → Prop} : Trn J R (.exc C env A) = R (.exc C env A) := rfl
def Tst (s : Hs → Prop) (k : Hs → Prop) (c : Bool) (A : Hs) : Prop := match c with
  | true => s A
  | false => k A
theorem z9j {s k : Hs → Prop} : Tst s k true A = s A := rfl
theorem z8s {s k : Hs → Prop} : Tst s k false A = k A := rfl
theorem z81 {s k : Hs → Prop} {c : Prop} [Decidable c] : Tst s k (decide c) A = if c then s A else k A := by
  by_cases h : c
  · simp [h, Tst]
  · simp [h, Tst]
def Got (r : Option Sl) (P : Sl → Prop) : Prop := match r with
  | some e => P e
  | none => False
theorem z8h {P : Sl → Prop} : Got (some env) P = P env := rfl
theorem for_go {g : G} {gd : Hs → Prop} (I : Nat → Sl → Hs → Prop) (R : RS → Prop) {ds : List D} (h0 : I 0 env A) (hg : ∀ i e A, i ≤ ds.length → I i e A → gd A)
    (hs : ∀ i e A d, ds[i]? = some d → I i e A → Got (g d e A) fun e1 => Trn (I (i + 1)) R (f e1 A))
    (hd : ∀ e A, I ds.length e A → R (.nx e A)) : R (forL g f gd ds env A) := by
  refine for_inv I R h0 hg (fun i e A d hd hI => ?_) hd
  have h2 := hs i e A d hd hI
  cases q0 : g d e A with
  | none => rw [q0] at h2; exact h2.elim
  | some e1 =>
    rw [q0, z8h] at h2
    refine ⟨e1, rfl, ?_⟩
    cases q : f e1 A with
    | nx e2 A2 => rw [q] at h2; exact .inl ⟨e2, A2, .inl rfl, h2⟩
    | ct e2 A2 => rw [q] at h2; exact .inl ⟨e2, A2, .inr rfl, h2⟩
    | rt d2 A2 => rw [q] at h2; exact .inr (.inl ⟨d2, A2, rfl, h2⟩)
    | bk e2 A2 => rw [q] at h2; exact .inr (.inr (.inl ⟨e2, A2, rfl, h2⟩))
    | exc C e2 A2 => rw [q] at h2; exact .inr (.inr (.inr ⟨C, e2, A2, rfl, h2⟩))
    | stuck => rw [q] at h2; exact h2.elim
/-- a comprehension of pure parts over what its walk gives, as simp shows it -/
theorem lc_go {g : G} {t : Tt} {gd : Hs → Prop} (p : D → Bool) (h : D → D) {ds : List D} (hgd : gd A) (hl : ds.length < 16000000)
    (hs : ∀ d ∈ ds, Got (g d env A) fun e1 => Rk (t e1 A) fun c A1 => c = p d ∧ A1 = A ∧ (c = true → Rk (a e1 A) fun v A2 => v = h d ∧ A2 = A)) : lcL g t a gd env ds [] A = .ok ((ds.filter p).map h) A := by
  refine lc_pure p h hgd (by simpa using hl) fun d hd => ?_
  have h2 := hs d hd
  cases q0 : g d env A with
  | none => rw [q0] at h2; exact h2.elim
  | some e1 =>
    rw [q0, z8h] at h2
    obtain ⟨c, A1, e, rfl, rfl, k⟩ := h2.ex
    refine ⟨e1, rfl, e, fun hp => ?_⟩
    obtain ⟨v, A2, e3, rfl, rfl⟩ := (k hp).ex
    exact e3
end
end SM

/-! ## enumerate over a tuple -/
namespace SM
open PySem L2 PySem.Spec PyProof.Rows
section
variable {prog : Program} {w : World} {A : Around} {E : Value → Shared → Prop} {s : Shared}
end
theorem PI.or {X : Cx} {tg e : Expr} {i1 i2 : TI} (h1 : PI X tg e i1) (h2 : PI X tg e i2) : PI X tg e (fun σ H R => i1 σ H R ∨ i2 σ H R) :=
  ⟨fun pins s σ H R I h => h.elim (h1.run pins s σ H R I) (h2.run pins s σ H R I)⟩
section
variable {K : PySem.W.Frag} {ca : CaT} {W : WX} {te : TE} {a : E}
def wkET (A : Hs) (x : D) : Option Wk := (wkT A x).map fun k => ⟨enumL k.ds, k.gd⟩
def wkEA (A : Hs) (x : D) : Option Wk := match x with
  | .tup _ => wkET A x
  | .wt _ => wkET A x
  | _ => wkE A x
theorem z31 {A : Hs} {i : Nat} : wkEA A (.ref i) = we_ A i A[i]? := z9o
theorem z2a {A : Hs} {l : List D} : wkEA A (.tup l) = some ⟨enumL l, tt⟩ := rfl
theorem z2q {A : Hs} {l : List D} : wkEA A (.scr l) = some ⟨enumL l, tt⟩ := rfl
end
end SM

/-! ## d.pop(k), d.pop(k, e) -/
namespace SM
open PySem L2
open DL (Ex ExK)
section
variable {K : PySem.W.Frag} {ca : CaT} {F F1 F2 H H1 H2 : Hp} {m m1 m2 : List Addr} {A A1 A2 : Hs} {σ : L2.St} {env : Sl} {W : WX} {Q : VK}
variable {to ti ta tb tc te tz : TE} {a b c e : E} {i : Nat} {d : D} {ts : TA} {as : As} {x y : V} {dx dy : D}
def oDPop (x y : D) (A : Hs) : RE D := match x with
  | .ref i => match A[i]? with
    | some (.dic false false l) => match keyK y, kget l y with
      | some _, some d => .ok d (A.set i (.dic false false (kdel l y)))
      | _, _ => .stuck
    | _ => .stuck
  | _ => .stuck
def ePop1 (a b : E) : E := fun env A => (a env A).bind fun x A1 => if isDic A1 x then (b env A1).bind fun y A2 => oDPop x y A2 else if (seqL A1 x).isSome then ((aCons b aNil) env A1).bind fun ds A2 => oPopAt x ds A2 else .stuck
/-- with a way out -/
def oDPop2 (x y z : D) (A : Hs) : RE D := match x with
  | .ref i => match A[i]? with
    | some (.dic false false l) => match keyK y with
      | some _ => match kget l y with
        | some d => .ok d (A.set i (.dic false false (kdel l y)))
        | none => .ok z A
      | _ => .stuck
    | _ => .stuck
  | _ => .stuck
def eDPop2 (a b c : E) : E := fun env A => (a env A).bind fun x A1 => if isDic A1 x then (b env A1).bind fun y A2 => (c env A2).bind fun z A3 => oDPop2 x y z A3 else .stuck
end
section
variable {A : Hs} {env : Sl} {a b c : E} {i : Nat} {x y z d : D} {kv : List (D × D)} {l : List D} {fs : List (String × D)} {C : String} {t lk : Bool} {n : Nat}
def isd_ : Option O → Bool
  | some (.dic _ _ _) => true
  | _ => false
theorem z8q : isd_ (some (.dic t lk kv)) = true := rfl
theorem z9r : isd_ (some (.lst l)) = false := rfl
theorem z3p : isDic A (.ref i) = isd_ A[i]? := by
  unfold isDic dicAt
  rcases h : A[i]? with _ | u
  · simp only [h]; rfl
  · cases u <;> simp only [h] <;> rfl
theorem z0t : isDic A (.scr l) = false := rfl
theorem z63 : ePop1 a b env A = (a env A).bind fun x A1 => if isDic A1 x = true then (b env A1).bind fun y A2 => oDPop x y A2 else if (seqL A1 x).isSome = true then ((aCons b aNil) env A1).bind fun ds A2 => oPopAt x ds A2 else .stuck := rfl
theorem z3t : eDPop2 a b c env A = (a env A).bind fun x A1 => if isDic A1 x = true then (b env A1).bind fun y A2 => (c env A2).bind fun z A3 => oDPop2 x y z A3 else .stuck := rfl
def dp_ (A : Hs) (i : Nat) (y : D) (kv : List (D × D)) : Option D → RE D
  | some d => if (keyK y).isSome = true then .ok d (A.set i (.dic false false (kdel kv y))) else .stuck
  | none => .stuck
theorem zcd : dp_ A i y kv (some d) = if (keyK y).isSome = true then .ok d (A.set i (.dic false false (kdel kv y))) else .stuck := rfl
def dpo_ (A : Hs) (i : Nat) (y : D) : Option O → RE D
  | some (.dic false false kv) => dp_ A i y kv (kget kv y)
  | _ => .stuck
theorem z9x : dpo_ A i y (some (.dic false false kv)) = dp_ A i y kv (kget kv y) := rfl
theorem z34 : oDPop (.ref i) y A = dpo_ A i y A[i]? := by
  unfold oDPop dpo_ dp_
  rcases h : A[i]? with _ | u
  · simp only [h]
  · cases u with
    | dic t lk kv => cases t <;> cases lk <;> simp only [h] <;> (cases keyK y <;> cases kget kv y <;> rfl)
    | _ => simp only [h]
theorem z5q {p : Int} : keyK (.int p) = some (.inl p) := rfl
theorem z6p {s : Str} : keyK (.str s) = some (.inr s) := rfl
theorem z37 {s : String} : keyK (dS s) = some (.inr (fS s)) := rfl
/-- y in a list's, tuple's items -/
def inl_ (A : Hs) (y : D) (l : List D) (neg : Bool) : RE D := match pyA A 40 y, allSome (l.map (pyA A 39)) with
  | some p, some ps => .ok (.bl (if neg then !(ps.any fun z => PyData.eqv z p) else ps.any fun z => PyData.eqv z p)) A
  | _, _ => .stuck
def in_ (A : Hs) (y : D) (neg : Bool) : Option O → RE D
  | some (.dic t _ kv) => if keyOk t y = true then .ok (.bl (if neg then !(kget kv y).isSome else (kget kv y).isSome)) A else .stuck
  | some (.lst l) => inl_ A y l neg
  | _ => .stuck
theorem zac {neg : Bool} : in_ A y neg (some (.dic t lk kv)) = if keyOk t y = true then .ok (.bl (if neg then !(kget kv y).isSome else (kget kv y).isSome)) A else .stuck := rfl
theorem zag {neg : Bool} : in_ A y neg (some (.lst l)) = inl_ A y l neg := rfl
theorem inData_l (h : pyA A 40 x = (allSome (l.map (pyA A 39))).map PyData.list ∨ pyA A 40 x = (allSome (l.map (pyA A 39))).map PyData.tuple) : inData A y x = match pyA A 40 y, allSome (l.map (pyA A 39)) with
  | some p, some ps => some (ps.any fun z => PyData.eqv z p)
  | _, _ => none := by
  unfold inData
  rcases h with h | h <;> rw [h] <;> (cases pyA A 40 y <;> cases allSome (l.map (pyA A 39)) <;> rfl)
theorem z7t : oIn y (.ref i) A = in_ A y false A[i]? := by
  unfold oIn oB inA
  rcases h : A[i]? with _ | u
  · have : pyA A 40 (.ref i) = none := by rw [pyA]; simp only [h]
    simp only [dicAt, h, inData, this]; cases pyA A 40 y <;> rfl
  · cases u with
    | dic t lk kv => simp only [dicAt, h, inDic, zac]; cases keyOk t y <;> simp [Option.map]
    | lst l =>
      have := inData_l (A := A) (x := .ref i) (y := y) (l := l) (.inl (py_lst h))
      simp only [dicAt, h, this, zag, inl_]
      cases pyA A 40 y <;> cases allSome (l.map (pyA A 39)) <;> rfl
    | obj C f =>
      have : pyA A 40 (.ref i) = none := by rw [pyA]; simp only [h]
      simp only [dicAt, h, inData, this]; cases pyA A 40 y <;> rfl
    | nd _ =>
      have : pyA A 40 (.ref i) = none := by rw [pyA]; simp only [h]
      simp only [dicAt, h, inData, this]; cases pyA A 40 y <;> rfl
theorem z1s : oNotIn y (.ref i) A = in_ A y true A[i]? := by
  unfold oNotIn oB inA
  rcases h : A[i]? with _ | u
  · have : pyA A 40 (.ref i) = none := by rw [pyA]; simp only [h]
    simp only [dicAt, h, inData, this]; cases pyA A 40 y <;> rfl
  · cases u with
    | dic t lk kv => simp only [dicAt, h, inDic, zac]; cases keyOk t y <;> simp [Option.map]
    | lst l =>
      have := inData_l (A := A) (x := .ref i) (y := y) (l := l) (.inl (py_lst h))
      simp only [dicAt, h, this, zag, inl_]
      cases pyA A 40 y <;> cases allSome (l.map (pyA A 39)) <;> rfl
    | obj C f =>
      have : pyA A 40 (.ref i) = none := by rw [pyA]; simp only [h]
      simp only [dicAt, h, inData, this]; cases pyA A 40 y <;> rfl
    | nd _ =>
      have : pyA A 40 (.ref i) = none := by rw [pyA]; simp only [h]
      simp only [dicAt, h, inData, this]; cases pyA A 40 y <;> rfl
theorem z91 : oIn y (.tup l) A = inl_ A y l false := by
  have := inData_l (A := A) (x := .tup l) (y := y) (l := l) (.inr (by rw [pyA]))
  unfold oIn oB inA
  simp only [dicAt, this, inl_]
  cases pyA A 40 y <;> cases allSome (l.map (pyA A 39)) <;> rfl
theorem z2r : oNotIn y (.tup l) A = inl_ A y l true := by
  have := inData_l (A := A) (x := .tup l) (y := y) (l := l) (.inr (by rw [pyA]))
  unfold oNotIn oB inA
  simp only [dicAt, this, inl_]
  cases pyA A 40 y <;> cases allSome (l.map (pyA A 39)) <;> rfl
theorem py_ints {ns : List Int} : allSome ((ns.map D.int).map (pyA A n)) = some (ns.map PyData.int) := by
  induction ns with
  | nil => rfl
  | cons b r ih => rw [List.map_cons, List.map_cons, show pyA A n (.int b) = some (.int b) by cases n <;> simp [pyA], allSome, ih]; rfl
theorem z20 {ns : List Int} {p : Int} {neg : Bool} : inl_ A (.int p) (ns.map D.int) neg = .ok (.bl (if neg then !decide (p ∈ ns) else decide (p ∈ ns))) A := by
  unfold inl_
  rw [py_ints, show pyA A 40 (.int p) = some (.int p) by simp [pyA]]
  have : ((ns.map PyData.int).any fun z => PyData.eqv z (.int p)) = decide (p ∈ ns) := by
    rw [List.any_map]
    induction ns with
    | nil => rfl
    | cons b r ih =>
      rw [List.any_cons, ih]
      simp [PyData.eqv]
      congr 1
      rw [Bool.eq_iff_iff, beq_iff_eq, decide_eq_true_eq]; exact eq_comm
  simp only [this]
end
end SM

/-! ## more equations -/
namespace SM
open PySem L2
section
variable {A A1 A2 : Hs} {env : Sl} {a b c : E} {x y z d : D} {l : List D} {os xs : List String} {tb : List (String × String × Bool)} {s : String}
theorem z1d : oIsi os xs tb (dS s) (.ty "str") A = .ok (.bl true) A := rfl
theorem z1f : oIsi os xs tb (dS s) (.ty "int") A = .ok (.bl false) A := rfl
theorem z0d : oIsi os xs tb (dS s) (.ty "bool") A = .ok (.bl false) A := rfl
theorem z00 : oIsi os xs tb (dS s) (.ty "tuple") A = .ok (.bl false) A := rfl
/-- a comprehension by what stays true of what it has made -/
theorem lc_run {g : G} {t : Tt} {gd : Hs → Prop} (P : Nat → List D → Hs → Prop) {ds : List D} (h0 : P 0 [] A) (hl : ds.length < 16000000) (hg : ∀ i l A, P i l A → gd A)
    (hs : ∀ i d, ds[i]? = some d → ∀ l A, P i l A → Got (g d env A) fun e1 => Rk (t e1 A) (Tst (fun A1 => Rk (a e1 A1) fun v A2 => P (i + 1) (l ++ [v]) A2) fun A1 => P (i + 1) l A1)) : Rk (lcL g t a gd env ds [] A) (P ds.length) := by
  have main : ∀ (n i : Nat) (acc : List D) (A : Hs), n + i = ds.length → P i acc A → acc.length ≤ i → Rk (lcL g t a gd env (ds.drop i) acc A) (P ds.length) := by
    intro n
    induction n with
    | zero =>
      intro i acc A hi h0 hle
      have : i = ds.length := by omega
      subst this
      rw [List.drop_length, lcL, if_pos (hg _ _ _ h0)]; exact h0
    | succ n ih =>
      intro i acc A hi h0 hle
      have hlt : i < ds.length := by omega
      have h2 := hs i ds[i] (by simp [hlt]) acc A h0
      rw [List.drop_eq_getElem_cons hlt]
      cases q0 : g ds[i] env A with
      | none => rw [q0] at h2; exact h2.elim
      | some e1 =>
        rw [q0, z8h] at h2
        obtain ⟨c, A1, e, h3⟩ := h2.ex
        rw [lcL, if_pos (hg _ _ _ h0), q0]
        simp only [e]
        cases c with
        | false => exact ih (i + 1) acc A1 (by omega) h3 (by omega)
        | true =>
          obtain ⟨v, A2, e2, h4⟩ := Rk.ex h3
          simp only [e2]
          rw [if_pos (small_line' (by omega))]
          exact ih (i + 1) _ A2 (by omega) h4 (by rw [List.length_append, List.length_singleton]; omega)
  have := main ds.length 0 [] A rfl h0 (Nat.le_refl _)
  rwa [List.drop_zero] at this
def kset_ (y v : D) (kv : List (D × D)) : List (D × D) := kv.map fun p => if keq p.1 y then (p.1, v) else p
theorem z1v {v : D} : kset_ y v [] = [] := rfl
theorem z14 {v : D} {kv : List (D × D)} : kset_ y v ((x, z) :: kv) = (if keq x y = true then (x, v) else (x, z)) :: kset_ y v kv := rfl
theorem z32 : khas [] y = false := rfl
theorem z1b {kv : List (D × D)} : khas ((x, z) :: kv) y = if keq x y = true then true else khas kv y := by
  unfold khas; rw [List.any_cons]; cases keq x y <;> rfl
theorem z1w {v : D} : kput [] y v = [(y, v)] := rfl
theorem z1h {v : D} {kv : List (D × D)} : kput ((x, z) :: kv) y v = if khas ((x, z) :: kv) y = true then kset_ y v ((x, z) :: kv) else ((x, z) :: kv) ++ [(y, v)] := rfl
theorem z9p : dNil env A = .ok [] A := rfl
theorem z5o {k v : E} {r : Dps} : dCons k v r env A = (k env A).bind fun x A1 => (v env A1).bind fun y A2 => (r env A2).bind fun ps A3 => .ok ((x, y) :: ps) A3 := rfl
def dsp_ (A : Hs) (ps : List (D × D)) : RE D := if (ps.all fun p => (keyK p.1).isSome) && decide (ps.length ≤ 15) then alloc A (.dic false false (kmerge [] ps)) else .stuck
theorem z7j {d : Dps} : eDisp d env A = (d env A).bind fun ps A1 => dsp_ A1 ps := rfl
theorem z7q {ps : List (D × D)} (h : (ps.all fun p => (keyK p.1).isSome) = true) (hl : ps.length ≤ 15) : dsp_ A ps = .ok (.ref A.length) (A ++ [.dic false false (kmerge [] ps)]) := by
  unfold dsp_; rw [h, decide_eq_true hl]; rfl
theorem z0h {l : List (D × D)} : kmerge l [] = l := by rw [kmerge]
theorem z04 {l r : List (D × D)} {v : D} : kmerge l ((x, v) :: r) = kmerge (kput l x v) r := by rw [kmerge]
end
end SM

/-! ## min of four -/
namespace PySem
open Sem (wp)
section
variable {prog : Program} {w : World} {A : Around} {E : Value → Shared → Prop} {s : Shared}
end
end PySem
namespace SM
open PySem L2
section
variable {K : PySem.W.Frag} {ca : CaT}
def c4 (f : D → D → D → D → Hs → RE D) : List D → Hs → RE D := fun ds A => match ds with
  | [d, e, g, h] => f d e g h A
  | _ => .stuck
def oMin4 (x y z w : D) (A : Hs) : RE D := match x, y, z, w with
  | .int i, .int j, .int k, .int l => .ok (.int (min (min (min i j) k) l)) A
  | _, _, _, _ => .stuck
end
theorem c4_ {A : Hs} {d d1 d2 d3 : D} {f : D → D → D → D → Hs → RE D} : c4 f [d, d1, d2, d3] A = f d d1 d2 d3 A := rfl
theorem z3y {A : Hs} {p q r s : Int} : oMin4 (.int p) (.int q) (.int r) (.int s) A = .ok (.int (min (min (min p q) r) s)) A := rfl
def ad_ (A : Hs) : Option (List D) → Option (List D) → RE D
  | some l, some k => if l.length + k.length ≤ sizeLine then .ok (.ref A.length) (A ++ [.lst (l ++ k)]) else .stuck
  | _, _ => .stuck
theorem zae {A : Hs} {l k : List D} (h : l.length + k.length ≤ 16000000) : ad_ A (some l) (some k) = .ok (.ref A.length) (A ++ [.lst (l ++ k)]) := by
  show (if l.length + k.length ≤ sizeLine then _ else _) = _
  rw [if_pos (z0o h)]
theorem z5v {A : Hs} {i j : Nat} : oAdd (.ref i) (.ref j) A = ad_ A (sq_ A[i]?) (sq_ A[j]?) := by
  unfold oAdd ad_ sq_
  simp only
  rcases A[i]? with _ | u
  · rfl
  · cases u with
    | lst l =>
      rcases A[j]? with _ | v
      · rfl
      · cases v <;> rfl
    | _ => rfl
/-- a statement that goes on, by what holds of it -/
def Nx (r : RS) (P : Sl → Hs → Prop) : Prop := match r with
  | .nx e A => P e A
  | _ => False
theorem z9f {e : Sl} {A : Hs} {P : Sl → Hs → Prop} : Nx (.nx e A) P = P e A := rfl
theorem Nx.call {r : RS} {P : Sl → Hs → Prop} (Q : RS → Prop) (h : Nx r P) (k : ∀ e A, P e A → Q (.nx e A)) : Q r := by
  cases r with
  | nx e A => exact k e A h
  | _ => exact h.elim
theorem rep_nS {n : Nat} : List.replicate (n + 1) (none : Option D) = none :: List.replicate n none := rfl
theorem rep_n0 : List.replicate 0 (none : Option D) = [] := rfl
end SM

/-! ## list.index of flat items -/
namespace SM
open PySem L2
open DL (Ex ExK)
def fV : D → Option V
  | .non => some .non
  | .bl b => some (.bl b)
  | .int i => some (.int i)
  | .str s => some (.str s)
  | _ => none
def fVs : List D → Option (List V)
  | [] => some []
  | d :: r => match fV d, fVs r with
    | some v, some vs => some (v :: vs)
    | _, _ => none
section
variable {K : PySem.W.Frag} {ca : CaT} {F : Hp} {m : List Addr}
end
/-- the first place of y -/
def idxV (y : V) : List V → Option Nat
  | [] => none
  | z :: r => if eqV z y = true then some 0 else (idxV y r).map (· + 1)
def oIndex (x : D) (ds : List D) (A : Hs) : RE D := match (seqL A x).bind fVs, ds with
  | some ws, [d] => match fV d with
    | some y => match idxV y ws with
      | some j => .ok (.int (j : Nat)) A
      | none => .stuck
    | none => .stuck
  | _, _ => .stuck
section
variable {K : PySem.W.Frag} {ca : CaT}
end
/-! equations -/
section
variable {A : Hs} {x y d : D} {i : Nat} {l : List D}
def ix3 (A : Hs) (y : V) : Option (List V) → RE D
  | some ws => at_ A ((idxV y ws).map fun j => .int (j : Nat))
  | none => .stuck
theorem z2d {b : Bool} : oIndex (.ref i) [.bl b] A = ix3 A (.bl b) ((sq_ A[i]?).bind fVs) := by
  unfold oIndex ix3; rw [z6n]
  cases (sq_ A[i]?).bind fVs with
  | none => rfl
  | some ws => simp only [fV]; cases idxV (V.bl b) ws <;> rfl
theorem z29 {n : Int} : oIndex (.ref i) [.int n] A = ix3 A (.int n) ((sq_ A[i]?).bind fVs) := by
  unfold oIndex ix3; rw [z6n]
  cases (sq_ A[i]?).bind fVs with
  | none => rfl
  | some ws => simp only [fV]; cases idxV (V.int n) ws <;> rfl
theorem z8a {y : V} {ws : List V} : ix3 A y (some ws) = at_ A ((idxV y ws).map fun j => .int (j : Nat)) := rfl
theorem z53 : fVs [] = some [] := rfl
theorem z83 {b : Bool} {r : List D} : fVs (.bl b :: r) = (fVs r).map (V.bl b :: ·) := by
  conv => lhs; unfold fVs
  simp only [fV]; cases fVs r <;> rfl
theorem z9e {b : Int} {r : List D} : fVs (.int b :: r) = (fVs r).map (V.int b :: ·) := by
  conv => lhs; unfold fVs
  simp only [fV]; cases fVs r <;> rfl
theorem z2z {y : V} : idxV y [] = none := rfl
theorem z6h {b c : Bool} {r : List V} : idxV (.bl c) (.bl b :: r) = if b = c then some 0 else (idxV (.bl c) r).map (· + 1) := by
  rw [idxV]; cases b <;> cases c <;> rfl
end
/-! try, count -/
section
variable {A A1 : Hs} {env e1 : Sl} {d : D} {i j : Nat} {C : String} {cts : List String} {b s : S}
def tryK_ (cts : List String) (i j : Nat) (r : RS) : RS := match r with
  | .exc C env1 A1 => if C ∈ cts then .nx (((env1.set i (some (.exc C))).set j (some (.exc C))).set i none) A1 else .stuck
  | r => r
theorem z61 : sTryK cts i j b env A = tryK_ cts i j (b env A) := rfl
theorem z3z : tryK_ cts i j (.nx env A) = .nx env A := rfl
theorem z4g : tryK_ cts i j (.rt d A) = .rt d A := rfl
theorem z2f (h : C ∈ cts) : tryK_ cts i j (.exc C env A) = .nx (((env.set i (some (.exc C))).set j (some (.exc C))).set i none) A := if_pos h
def tryO_ (cts : List String) (s : S) (r : RS) : RS := match r with
  | .exc C env1 A1 => if C ∈ cts then s env1 A1 else .stuck
  | r => r
theorem z5k : sTryO cts b s env A = tryO_ cts s (b env A) := rfl
theorem z3q : tryO_ cts s (.nx env A) = .nx env A := rfl
theorem z4y : tryO_ cts s (.rt d A) = .rt d A := rfl
theorem z2l (h : C ∈ cts) : tryO_ cts s (.exc C env A) = s env A := if_pos h
def cn_ (A : Hs) (c : Bool) : Option (List Bool) → RE D
  | some bs => .ok (.int (bs.count c : Nat)) A
  | none => .stuck
theorem z2p {c : Bool} : oCount (.ref i) [.bl c] A = cn_ A c ((sq_ A[i]?).bind boolsOf) := by
  unfold oCount; rw [z6n]; cases (sq_ A[i]?).bind boolsOf <;> rfl
theorem zc0 {c : Bool} {bs : List Bool} : cn_ A c (some bs) = .ok (.int (bs.count c : Nat)) A := rfl
theorem z5i : boolsOf [] = some [] := rfl
theorem z4d {c : Bool} {r : List D} : boolsOf (.bl c :: r) = (boolsOf r).map (c :: ·) := rfl
theorem z4e {c : Bool} : List.count c [] = 0 := rfl
theorem z30 {c b : Bool} {r : List Bool} : List.count c (b :: r) = List.count c r + (if b = c then 1 else 0) := by
  rw [List.count_cons]; cases b <;> cases c <;> rfl
end
/-! a, b, c = x, y, z -/
def sPar3 (i j l : Nat) (as : As) : S := fun env A => match as env A with
  | .ok [x, y, z] A1 => .nx (((env.set i (some x)).set j (some y)).set l (some z)) A1
  | .exc C A1 => .exc C env A1
  | _ => .stuck
section
variable {K : PySem.W.Frag} {ca : CaT} {W : WX} {i j l : Nat} {as : As} {ts : TA} {A : Hs} {env : Sl} {x y z : D}
def par3_ (env : Sl) (i j l : Nat) (r : RE (List D)) : RS := match r with
  | .ok [x, y, z] A1 => .nx (((env.set i (some x)).set j (some y)).set l (some z)) A1
  | .exc C A1 => .exc C env A1
  | _ => .stuck
theorem z6b : sPar3 i j l as env A = par3_ env i j l (as env A) := rfl
theorem z3u : par3_ env i j l (.ok [x, y, z] A) = .nx (((env.set i (some x)).set j (some y)).set l (some z)) A := rfl
end
/-! tuple(range(n)) -/
def eTupRg (a : E) : E := fun env A => (a env A).bind fun x A1 => match x with
  | .int n => if 0 ≤ n ∧ n ≤ 16777216 then .ok (.tup (rgL 0 1 n.toNat)) A1 else .stuck
  | _ => .stuck
section
variable {K : PySem.W.Frag} {ca : CaT} {W : WX} {te : TE} {a : E} {A : Hs} {n : Int}
def tupRg_ (A : Hs) : D → RE D
  | .int n => if 0 ≤ n ∧ n ≤ 16777216 then .ok (.tup (rgL 0 1 n.toNat)) A else .stuck
  | _ => .stuck
theorem z44 {env : Sl} : eTupRg a env A = (a env A).bind fun x A1 => tupRg_ A1 x := by
  unfold eTupRg tupRg_; rfl
theorem z4w (h : 0 ≤ n ∧ n ≤ 16777216) : tupRg_ A (.int n) = .ok (.tup (rgL 0 1 n.toNat)) A := if_pos h
end
/-- a def that has a second name -/
theorem Dx.of2 {P : Program} {w : World} {K : PySem.W.Frag} {mg : Str → Option Value} {base : Heap} {k : Nat} {x x0 qn : Str} {st : Stmt} {fa : Addr} {fd : FuncData} {ps : List Str} {sp : Sp} (h : FnOk P w K mg base (L2.CX P w) k fa fd ps sp) (F : Fun K x0 qn st fa fd) (hm : mg x = some (.ref fa)) (b : Binds K fd ps []) : DL.Dx P w K mg base k x sp := ⟨fa, fd, ps, h, hm, F.kp, b⟩
end SM

/-! ## defs with defaults -/
namespace L2
open PySem PySem.Spec PyProof.Rows
section
variable {X : Cx} {CX : CXT} {k : Nat} {f C : Addr} {fd : FuncData} {ps : List Str} {sp : Sp} {E : St → XK} {x : Str} {p pos : Pos} {e : Expr} {es : List Expr} {t : TA} {ds : List Value} {dvs : List V}
end
end L2
namespace DL
open PySem L2
/-- a class whose __init__ is called with its defaults dvs -/
structure MxD (P : Program) (w : World) (K : PySem.W.Frag) (mg : Str → Option Value) (base : Heap) (k : Nat) (x : Str) (C : Addr) (sp : Sp) (dvs : List V) : Prop where
  ex : ∃ (f : Addr) (fd : FuncData) (ps : List Str) (ds : List Value), Mk K C f ∧ FnOk P w K mg base (L2.CX P w) k f fd ps sp ∧ mg x = some (.ref C) ∧ Binds K fd ps ds ∧ Vals dvs ds
theorem MxD.of {P : Program} {w : World} {K : PySem.W.Frag} {mg : Str → Option Value} {base : Heap} {k : Nat} {x : Str} {C fa : Addr} {fd : FuncData} {ps : List Str} {sp : Sp} {dvs : List V} (M : Mk K C fa) (h : FnOk P w K mg base (L2.CX P w) k fa fd ps sp) (hm : mg x = some (.ref C)) (b : ∃ ds, Vals dvs ds ∧ Binds K fd ps ds) : MxD P w K mg base k x C sp dvs := by
  obtain ⟨ds, v, b⟩ := b
  exact ⟨fa, fd, ps, ds, M, h, hm, b, v⟩
theorem MxD.full {P : Program} {w : World} {K : PySem.W.Frag} {mg : Str → Option Value} {base : Heap} {k : Nat} {x : Str} {C : Addr} {sp : Sp} (h : MxD P w K mg base k x C sp []) : Mx P w K mg base k x C sp := by
  obtain ⟨fa, fd, ps, ds, M, h, hm, b, v⟩ := h.ex
  cases v
  exact ⟨fa, fd, ps, M, h, hm, b⟩
section
variable {X : Cx} {W : WX} {k j : Nat} {x : Str} {C : Addr} {sp : Sp} {p pos : Pos} {e : Expr} {es : List Expr} {t : TA} {dvs : List V}
end
end DL
namespace SM
open PySem L2
open DL (Ex ExK)
section
variable {K : PySem.W.Frag} {ca : CaT} {W : WX} {as : As} {ts : TA} {C : String} {f : Fn} {A : Hs} {env : Sl} {l : List D}
def eMakeD (C : String) (f : Fn) (dd : List D) (as : As) : E := fun env A => (as env A).bind fun ds A1 => make C f (ds ++ dd) A1
def eMakeD0 (C : String) (f : Fn) (dd : List D) (as : As) : E := fun env A => (as env A).bind fun ds A1 => (make C f (ds ++ dd) A1).noX
theorem z36 {dd : List D} : eMakeD C f dd as env A = (as env A).bind fun ds A1 => make C f (ds ++ dd) A1 := rfl
theorem z2u {dd : List D} : eMakeD0 C f dd as env A = (as env A).bind fun ds A1 => (make C f (ds ++ dd) A1).noX := rfl
end
section
variable {P : Program} {w : World} {K : PySem.W.Frag} {mg : Str → Option Value} {base : Heap} {ca : CaT} {x qn : Str} {st : Stmt} {fa : Addr} {fd : FuncData} {N ps : List Str} {k : Nat}
end
end SM

/-! ## t[::e] of a tuple, e = 1 or -1 -/
namespace SM
open PySem L2 PySem.Spec PyProof.Rows
section
variable {prog : Program} {w : World} {A : Around} {E : Value → Shared → Prop} {s : Shared}
end
section
open DL (Ex ExK)
variable {K : PySem.W.Frag} {ca : CaT} {W : WX} {ta tb : TE} {a b : E}
def oStT (x y : D) (A : Hs) : RE D := match seqT x with
  | some l => match y with
    | .int i => if i = 1 then .ok x A else if i = -1 then .ok (.tup l.reverse) A else .stuck
    | _ => .stuck
  | _ => .stuck
theorem z64 {l : List D} {A : Hs} : oStT (.tup l) (.int 1) A = .ok (.tup l) A := rfl
theorem z5p {l : List D} {A : Hs} : oStT (.tup l) (.int (-1)) A = .ok (.tup l.reverse) A := rfl
end
end SM

/-! ## text * 0, text * 1 -/
namespace L2
open PySem PySem.Spec PyProof.Rows
end L2
namespace SM
open PySem L2
open DL (Ex ExK)
section
variable {K : PySem.W.Frag} {ca : CaT}
def oMulS (x y : D) (A : Hs) : RE D := match x, y with
  | .str s, .int i => if i = 1 then .ok (.str s) A else if i = 0 then .ok (.str Str.empty) A else .stuck
  | _, _ => .stuck
end
theorem z4r {A : Hs} {s : String} : oMulS (dS s) (.int 1) A = .ok (dS s) A := rfl
theorem z4u {A : Hs} {s : String} : oMulS (dS s) (.int 0) A = .ok (dS "") A := rfl
section
variable {A : Hs} {env : Sl} {o a e : E} {i : Nat} {x y z d : D} {kv : List (D × D)} {t lk : Bool}
theorem z7n : eGet2 o a e env A = (o env A).bind fun x A1 => if isDic A1 x = true then (a env A1).bind fun y A2 => (e env A2).bind fun z A3 => ofO A3 (getD A3 x y z) else .stuck := rfl
def gD_ (y z : D) : Option O → Option D
  | some (.dic t _ kv) => if keyOk t y = true then some ((kget kv y).getD z) else none
  | _ => none
theorem z6r : getD A (.ref i) y z = gD_ y z A[i]? := by
  unfold getD gD_ dicAt
  rcases h : A[i]? with _ | u
  · simp only [h]
  · cases u <;> simp only [h]
theorem zc8 : gD_ y z (some (.dic t lk kv)) = if keyOk t y = true then some ((kget kv y).getD z) else none := rfl
theorem z9c {α : Type} {d : α} : ofO A (some d) = .ok d A := rfl
end
def oL_ (r : RE D) (x : D) (A : Hs) : Option (List D) → RE D
  | some l => if l.isEmpty = true then r else .ok x A
  | none => .stuck
theorem z8z {A : Hs} {env : Sl} {a b : E} : eOrL a b env A = (a env A).bind fun x A1 => oL_ (b env A1) x A1 (seqL A1 x) := by
  unfold eOrL
  cases a env A with
  | ok x A1 =>
    simp only [RE.bind]
    cases seqL A1 x <;> rfl
  | exc _ _ => rfl
  | stuck => rfl
theorem zak {r : RE D} {x : D} {A : Hs} {l : List D} : oL_ r x A (some l) = if l.isEmpty = true then r else .ok x A := rfl
/-! len(set(xs)) of ints -/
def eLenSet (a : E) : E := fun env A => (a env A).bind fun x A1 => match (seqL A1 x).bind intsOf with
  | some ns => if ns.length ≤ 4000 then .ok (.int (L2.unlike ns : Nat)) A1 else .stuck
  | none => .stuck
def lnS_ (A : Hs) : Option (List Int) → RE D
  | some ns => if ns.length ≤ 4000 then .ok (.int (L2.unlike ns : Nat)) A else .stuck
  | none => .stuck
theorem z2w {a : E} {env : Sl} {A : Hs} : eLenSet a env A = (a env A).bind fun x A1 => lnS_ A1 ((seqL A1 x).bind intsOf) := by
  unfold eLenSet lnS_; rfl
theorem z9q {A : Hs} {ns : List Int} (h : ns.length ≤ 4000) : lnS_ A (some ns) = .ok (.int (L2.unlike ns : Nat)) A := if_pos h
/-- a def that is called by no run -/
theorem Dx.never {P : Program} {w : World} {K : PySem.W.Frag} {mg : Str → Option Value} {base : Heap} {ca : CaT} {k : Nat} {x x0 qn : Str} {st : Stmt} {fa : Addr} {fd : FuncData} {ps : List Str} (F : Fun K x0 qn st fa fd) (hm : mg x = some (.ref fa)) (b : Binds K fd ps []) : DL.Dx P w K mg base k x (SpF K ca fun _ _ => .stuck) := by
  refine ⟨fa, fd, ps, ⟨fun vs H Q E h => ?_, fun A outer s H args us vs Q E _ _ _ _ h => ?_⟩, hm, F.kp, b⟩
  · obtain ⟨_, _, _, _, _, _, p⟩ := h; exact p.elim
  · obtain ⟨_, _, _, _, _, _, p⟩ := h; exact p.elim
end SM

/-! ## z.join(xs).replace(y, w), int(text) -/
namespace DL
open PySem L2 PySem.Spec PyProof.Rows
section
variable {X : Cx} {e : Expr} {te : TE} {x y z : Str} {j k i : Nat} {c c0 c1 ap1 p1 apos pos : Pos}
end
def rIntT : List V → Hp → VK → Prop := fun xs H Q => rInt1 xs H Q ∨ ∃ a n, xs = [.str a] ∧ PySem.intText? a = some n ∧ a.length ≤ 640 ∧ Q (.int n) H
def rStrI : List V → Hp → VK → Prop := fun xs H Q => ∃ i, xs = [V.int i] ∧ i.natAbs.log2 < 1920 ∧ Q (.str (toString i)) H
end DL
namespace SM
open PySem L2
open DL (rJoin rIntT rStrI)
section
variable {K : PySem.W.Frag} {ca : CaT} {F H H1 : Hp} {m : List Addr} {A A1 : Hs} {σ : L2.St} {env : Sl} {W : WX} {Q : VK}
variable {to : TE} {o : E}
def rpl (y z : Str) (A : Hs) : D → RE D
  | .str x => if x.length + (x.length + 1) * z.length ≤ 16777216 then .ok (.str (Txt.replace x y z)) A else .stuck
  | _ => .stuck
def eRepl (y z : Str) (o : E) : E := fun env A => (o env A).bind fun x A1 => rpl y z A1 x
def oIntT (x : D) (A : Hs) : RE D := match x with
  | .int i => .ok (.int i) A
  | .bl b => .ok (.int (if b then 1 else 0)) A
  | .str a => if a.length ≤ 640 then match PySem.intText? a with
    | some n => .ok (.int n) A
    | none => .stuck
    else .stuck
  | _ => .stuck
/-- not by rfl alone: else the kernel may unfold the whole def that is called -/
theorem z97 {α β : Type} {a : α} {A : Hs} {f : α → Hs → RE β} : (RE.ok a A).bind f = f a A := id rfl
theorem zb2 {e : Sl} {A : Hs} {f : S} : seqR (.nx e A) f = f e A := id rfl
theorem z8t {a b : S} : sSeq a b env A = seqR (a env A) b := id rfl
theorem z74 {y z : Str} : eRepl y z o env A = (o env A).bind fun x A1 => rpl y z A1 x := rfl
theorem z4z {p : Int} : oIntT (.int p) A = .ok (.int p) A := rfl
theorem z4t {b : Bool} : oIntT (.bl b) A = .ok (.int (if b then 1 else 0)) A := rfl
end
/-- a module's own tuple of ints -/
def KTpl (K : PySem.W.Frag) (a : Addr) (ns : List Int) : Prop := ∃ (o : Obj) (its : Array Value) (n : Nat), K.lookup a = some o ∧ o.cls = .type "tuple" ∧ o.data = .seq its n ∧ its.size ≤ sizeLine ∧ Vals (ns.map V.int) its.toList
theorem repL_ints {K : PySem.W.Frag} {ca : CaT} {F : Hp} {m : List Addr} : ∀ ns : List Int, RepL K ca F m (ns.map V.int) (ns.map D.int)
  | [] => .nil
  | n :: ns => .cons (.int n) (repL_ints ns)
theorem KTpl.rep {K : PySem.W.Frag} {ca : CaT} {a : Addr} {ns : List Int} (h : KTpl K a ns) (F : Hp) (m : List Addr) : Rep K ca F m (.ref a) (.wt (ns.map D.int)) := .wt (.inr h) (repL_ints ns)
end SM

/-! ## dicts walked: locked while a loop runs; their keys, values, pairs; dict(x); sorted(ints) -/
namespace SM
open PySem L2
open DL (Ex ExK)
section
variable {K : PySem.W.Frag} {ca : CaT} {F F1 F2 H H1 H2 : Hp} {m m1 m2 : List Addr} {A A1 A2 : Hs} {σ : L2.St} {env : Sl} {W : WX} {i : Nat} {u : HO} {t : Bool} {l : List (D × D)}
/-- a dict's object is there -/
theorem Rl.dic (R : Rl K ca F m A H) (h : A[i]? = some (.dic t false l)) : ∃ a u, m[i]? = some a ∧ H a = some u ∧ Mut (some u) ∧ (∀ od w, u ≠ .frz od w) ∧ ∀ od, ORep K ca F m (upd H a (.frz od u)) a (.dic t true l) := by
  have l0 : i < m.length := by rw [R.len]; exact (List.getElem?_eq_some_iff.mp h).1
  have ha : m[i]? = some m[i] := List.getElem?_eq_getElem l0
  have r := R.ob i _ m[i] h ha
  cases t with
  | false =>
    obtain ⟨kvs, h1, h2⟩ := r
    exact ⟨m[i], .dK kvs, ha, h1, trivial, fun od w z => (by cases z), fun od => ⟨kvs, ⟨od, upd_same⟩, h2⟩⟩
  | true =>
    obtain ⟨kvs, h1, h2⟩ := r
    exact ⟨m[i], .dT kvs, ha, h1, trivial, fun od w z => (by cases z), fun od => ⟨kvs, ⟨od, upd_same⟩, h2⟩⟩
end
def pkR : RE D → Option Nat
  | .ok (.ref i) _ => some i
  | _ => none
/-- unlocked again -/
def un1 {β : Type} (k : Hs → β) (s : β) (A : Hs) (i : Nat) : Option O → β
  | some (.dic t true l) => k (A.set i (.dic t false l))
  | _ => s
def ulR (i : Nat) : RS → RS
  | .nx e A => un1 (fun B => .nx e B) .stuck A i A[i]?
  | .bk e A => un1 (fun B => .bk e B) .stuck A i A[i]?
  | .ct e A => un1 (fun B => .ct e B) .stuck A i A[i]?
  | .rt d A => un1 (fun B => .rt d B) .stuck A i A[i]?
  | .exc C e A => .exc C e A
  | .stuck => .stuck
def lk2 (f : S) (env : Sl) (A : Hs) (i : Nat) : Option O → RS
  | some (.dic t false l) => ulR i (f env (A.set i (.dic t true l)))
  | _ => .stuck
def lk1 (f : S) (env : Sl) (A : Hs) : Option Nat → RS
  | some i => lk2 f env A i A[i]?
  | none => .stuck
def sLk (x : E) (f : S) : S := fun env A => lk1 f env A (pkR (x env A))
def ulE (i : Nat) : RE D → RE D
  | .ok d A => un1 (fun B => .ok d B) .stuck A i A[i]?
  | .exc C A => .exc C A
  | .stuck => .stuck
def lkE2 (f : E) (env : Sl) (A : Hs) (i : Nat) : Option O → RE D
  | some (.dic t false l) => ulE i (f env (A.set i (.dic t true l)))
  | _ => .stuck
def lkE1 (f : E) (env : Sl) (A : Hs) : Option Nat → RE D
  | some i => lkE2 f env A i A[i]?
  | none => .stuck
def eLk (x : E) (f : E) : E := fun env A => lkE1 f env A (pkR (x env A))
section
variable {K : PySem.W.Frag} {ca : CaT} {W : WX}
end
/-! what is walked -/
def wd_ (A : Hs) (i : Nat) (f : Bool → List (D × D) → Option (List D)) : Option O → Option Wk
  | some (.dic t true l) => (f t l).map fun ds => ⟨ds, fun A' => A'[i]? = some (.dic t true l)⟩
  | _ => none
def wdA (f : Bool → List (D × D) → Option (List D)) (A : Hs) : D → Option Wk
  | .ref i => wd_ A i f A[i]?
  | _ => none
def wkK : Hs → D → Option Wk := wdA fun _ l => some (l.map Prod.fst)
def wkV : Hs → D → Option Wk := wdA fun t l => if t = false then some (l.map Prod.snd) else none
def wkI : Hs → D → Option Wk := wdA fun t l => if t = false then some (l.map fun p => .tup [p.1, p.2]) else none
section
variable {K : PySem.W.Frag} {ca : CaT} {F F1 F2 H H1 H2 : Hp} {m m1 m2 : List Addr} {A A1 A2 : Hs} {W : WX} {te : TE} {a : E}
theorem KvR.at_ {κ δ : Type} {kd : κ → δ} : ∀ {kvs : List (κ × V)} {l : List (δ × D)}, KvR K ca F m kd kvs l → ∀ {i : Nat} {k : κ} {v : V}, kvs[i]? = some (k, v) → ∃ d, l[i]? = some (kd k, d) ∧ Rep K ca F m v d
  | _, _, .nil, i, k, v, h => by simp at h
  | _, _, .cons r t, i, k, v, h => by
    cases i with
    | zero =>
      rw [List.getElem?_cons_zero] at h ⊢
      cases h
      exact ⟨_, rfl, r⟩
    | succ i =>
      rw [List.getElem?_cons_succ] at h ⊢
      exact KvR.at_ t h
end
/-! dict(xs), sorted(xs) -/
def rDictA (K : PySem.W.Frag) : List V → Hp → VK → Prop := fun xs H Q => (∃ (a : Addr) (ps : List Addr) (kvs : List (Key × V)), xs = [.ref a] ∧ SqL K H a (ps.map V.ref) ∧ Paired (fun p kv => SqT K H p [kV kv.1, kv.2]) ps kvs ∧
    ∀ p, H p = none → Q (.ref p) (upd H p (.dK (mergeK [] kvs)))) ∨ ∃ (a : Addr) (kvs : List (Key × V)), xs = [.ref a] ∧ Rd H a (.dK kvs) ∧ ∀ p, H p = none → Q (.ref p) (upd H p (.dK kvs))
theorem call_dictA {X : Cx} {K : PySem.W.Frag} (hcalm : X.calm = true) (e : X.K = K := by rfl) : CallR X (.type "dict") (rDictA K) := fun pins s σ H xs us Q I r h => by
  subst e
  rcases h with h | h
  · exact call_dictP hcalm pins s σ H xs us Q I r h
  · exact call_dictD pins s σ H xs us Q I r h
theorem call_sortedA {X : Cx} {K : PySem.W.Frag} (e : X.K = K := by rfl) : CallR X (.builtin "sorted") (rSortedI K) := by subst e; exact cr_sortedI
def pairsD : List D → Option (List (D × D))
  | [] => some []
  | .tup [k, v] :: r => if (keyK k).isSome = true then (pairsD r).map ((k, v) :: ·) else none
  | _ => none
def oDict (x : D) (A : Hs) : RE D := match x with
  | .ref i => match A[i]? with
    | some (.dic false _ l) => alloc A (.dic false false l)
    | some (.lst l) => match pairsD l with
      | some ps => alloc A (.dic false false (kmerge [] ps))
      | none => .stuck
    | _ => .stuck
  | _ => .stuck
def srt (l : List Int) : List Int := l.mergeSort fun a b => decide (a ≤ b)
def oSorted (x : D) (A : Hs) : RE D := match (seqL A x).bind intsOf with
  | some ns => alloc A (.lst ((srt ns).map D.int))
  | none => .stuck
section
variable {K : PySem.W.Frag} {ca : CaT} {F F1 F2 H H1 H2 : Hp} {m m1 m2 : List Addr} {A A1 A2 : Hs} {W : WX} {te : TE} {a : E}
theorem srt_eq {ns ns' : List Int} (h : ns'.Perm ns) (p : ns'.Pairwise (· ≤ ·)) : ns' = srt ns := by
  have h1 : (srt ns).Perm ns := List.mergeSort_perm _ _
  have h2 : (srt ns).Pairwise fun a b => decide (a ≤ b) = true := List.pairwise_mergeSort (fun a b c => by simp only [decide_eq_true_eq]; omega) (fun a b => by simp only [Bool.or_eq_true, decide_eq_true_eq]; omega) ns
  refine List.Perm.eq_of_pairwise (le := fun a b : Int => a ≤ b) (fun a b _ _ h1 h2 => by omega) p (h2.imp fun h => of_decide_eq_true h) (h.trans h1.symm)
theorem pairs_rep (R : Rl K ca F m A H) : ∀ {vs : List V} {l : List D} {qs : List (D × D)}, RepL K ca F m vs l → pairsD l = some qs → ∃ (ps : List Addr) (kvs : List (Key × V)), vs = ps.map V.ref ∧ Paired (fun p kv => SqT K H p [kV kv.1, kv.2]) ps kvs ∧ KvR K ca F m kD kvs qs
  | _, _, _, .nil, h => by
    cases h
    exact ⟨[], [], rfl, .nil, .nil⟩
  | _, _, _, .cons (d := d) r rs, h => by
    unfold pairsD at h
    split at h
    · rename_i e; cases e
    · rename_i k v l e
      cases e
      split at h
      · rename_i hk
        obtain ⟨qs', h1, rfl⟩ := Option.map_eq_some_iff.mp h
        obtain ⟨ps, kvs, e1, e2, e3⟩ := pairs_rep R rs h1
        obtain ⟨kk, hk⟩ := Option.isSome_iff_exists.mp hk
        have e := keyK_kD hk
        have e : k = kD kk := e
        subst e
        cases r with
        | tup s rr =>
          cases rr with
          | cons r1 rr =>
            cases rr with
            | cons r2 rr =>
              cases rr
              rename_i x1 x2
              have ex : x1 = kV kk := by cases kk with
                | inl i => cases r1; rfl
                | inr x => cases r1; rfl
              subst ex
              refine ⟨_ :: ps, (kk, x2) :: kvs, by rw [e1]; rfl, .cons (.inl (.inl (R.fh _ _ s))) e2, .cons r2 e3⟩
      · cases h
    · cases h
theorem cs_dict : CbS K ca (rDictA K) (c1 oDict) := cs_1 fun F m A H x dx W σ Q R rx p => by
  unfold oDict at p
  split at p
  · rename_i i
    split at p
    · rename_i lk l hA
      obtain ⟨ad, e, ha, kvs, h1, h2⟩ := R.at hA rx
      subst e
      exact .inr ⟨ad, kvs, rfl, rdK h1, fun q hq => po_alloc (o := .dic false false l) R hq ⟨kvs, upd_same, h2.mono (Ex.refl _) ⟨_, rfl⟩⟩ p⟩
    · rename_i l hA
      split at p
      · rename_i qs hq
        obtain ⟨ad, vs, e, ha, h1, h2⟩ := lst_at R rx hA
        subst e
        obtain ⟨ps, kvs, e1, e2, e3⟩ := pairs_rep R h2 hq
        subst e1
        exact .inl ⟨ad, ps, kvs, rfl, .inl (.inl h1), e2, fun q hq => po_alloc (o := .dic false false (kmerge [] qs)) R hq ⟨_, upd_same, (kmerge_rep e3 .nil).mono (Ex.refl _) ⟨_, rfl⟩⟩ p⟩
      · exact p.elim
    · exact p.elim
  · exact p.elim
theorem cs_sorted : CbS K ca (rSortedI K) (c1 oSorted) := cs_1 fun F m A H x dx W σ Q R rx p => by
  unfold oSorted at p
  split at p
  · rename_i bs hb
    obtain ⟨l, h1, h2⟩ := Option.bind_eq_some_iff.mp hb
    obtain ⟨a, vs, e, h3, h4⟩ := seqL_at R rx h1
    have e2 := intsOf_eq h2
    subst e2
    have e3 := h4.ints
    subst e3 e
    refine ⟨a, bs, rfl, h3, fun ns' q pm pw hq => ?_⟩
    rw [srt_eq pm pw]
    exact po_alloc (o := .lst ((srt bs).map D.int)) R hq ⟨_, upd_same, repL_ints _⟩ p
  · exact p.elim
end
/-! for plain proofs -/
section
variable {A B : Hs} {i : Nat} {e env : Sl} {d : D} {t : Bool} {l : List (D × D)} {f : S} {x g : E} {β : Type} {k : Hs → β} {s : β} {C : String}
theorem zbq : sLk x f env A = lk1 f env A (pkR (x env A)) := rfl
theorem zat : eLk x g env A = lkE1 g env A (pkR (x env A)) := rfl
theorem z69 : pkR (.ok (.ref i) A) = some i := rfl
theorem z8x : lk1 f env A (some i) = lk2 f env A i A[i]? := rfl
theorem z7o : lkE1 g env A (some i) = lkE2 g env A i A[i]? := rfl
theorem z7w : lk2 f env A i (some (.dic t false l)) = ulR i (f env (A.set i (.dic t true l))) := id rfl
theorem z5z : lkE2 g env A i (some (.dic t false l)) = ulE i (g env (A.set i (.dic t true l))) := id rfl
theorem z79 : ulR i (.nx e A) = un1 (fun B => .nx e B) .stuck A i A[i]? := rfl
theorem z6m : ulR i (.bk e A) = un1 (fun B => .bk e B) .stuck A i A[i]? := rfl
theorem z6k : ulR i (.ct e A) = un1 (fun B => .ct e B) .stuck A i A[i]? := rfl
theorem z6e : ulR i (.rt d A) = un1 (fun B => .rt d B) .stuck A i A[i]? := rfl
theorem z3x : ulR i (.exc C e A) = .exc C e A := rfl
theorem z68 : ulE i (.ok d A) = un1 (fun B => .ok d B) .stuck A i A[i]? := rfl
theorem z3m : ulE i (.exc C A) = .exc C A := rfl
theorem z9a : un1 k s A i (some (.dic t true l)) = k (A.set i (.dic t false l)) := rfl
theorem z8f : wkK A (.ref i) = wd_ A i (fun _ l => some (l.map Prod.fst)) A[i]? := rfl
theorem z92 : wkV A (.ref i) = wd_ A i (fun t l => if t = false then some (l.map Prod.snd) else none) A[i]? := rfl
theorem z89 : wkI A (.ref i) = wd_ A i (fun t l => if t = false then some (l.map fun p => .tup [p.1, p.2]) else none) A[i]? := rfl
theorem zao {f : Bool → List (D × D) → Option (List D)} : wd_ A i f (some (.dic t true l)) = (f t l).map fun ds => ⟨ds, fun A' => A'[i]? = some (.dic t true l)⟩ := rfl
def od_ (A : Hs) : Option O → RE D
  | some (.dic false _ l) => .ok (.ref A.length) (A ++ [.dic false false l])
  | some (.lst l) => match pairsD l with
    | some ps => .ok (.ref A.length) (A ++ [.dic false false (kmerge [] ps)])
    | none => .stuck
  | _ => .stuck
theorem z4k : oDict (.ref i) A = od_ A A[i]? := by
  unfold oDict od_
  cases h : A[i]? with
  | none => simp only [h]
  | some o =>
    simp only [h]
    cases o with
    | dic t lk l => cases t <;> rfl
    | lst l => cases pairsD l <;> rfl
    | obj C fs => rfl
    | nd _ => rfl
theorem zap {lk : Bool} : od_ A (some (.dic false lk l)) = .ok (.ref A.length) (A ++ [.dic false false l]) := rfl
def os_ (A : Hs) : Option (List Int) → RE D
  | some ns => .ok (.ref A.length) (A ++ [.lst ((srt ns).map D.int)])
  | none => .stuck
theorem z1a : oSorted x_ A = os_ A ((seqL A x_).bind intsOf) := by
  unfold oSorted os_
  cases (seqL A x_).bind intsOf <;> rfl
theorem zbg {ns : List Int} : os_ A (some ns) = .ok (.ref A.length) (A ++ [.lst ((srt ns).map D.int)]) := rfl
end
end SM

/-! ## a lambda handed to a def that tries it: told = work(), an error is kept by a name -/
namespace SM
open PySem PySem.Spec PyProof.Rows L2
open DL (Ex ExK)
/-- what a def's end hands back where nothing may be let out -/
def retS : RS → RE D
  | .nx _ A => .ok .non A
  | .rt d A => .ok d A
  | _ => .stuck
/-- slots: 0 what is tried, 1 what it told, 2 what was caught, 3 the handler's name -/
def trK (cts : List String) (frest : S) : RE D → RE D
  | .ok d A1 => retS (frest [none, some d, some .non, none] A1)
  | .exc C A1 => if C ∈ cts then retS (frest [none, none, some (.exc C), none] A1) else .stuck
  | .stuck => .stuck
def eTried (cts : List String) (frest : S) (th : E) : E := fun env A => trK cts frest (th env A)
section
variable {K : PySem.W.Frag} {ca : CaT} {F F1 F2 H H1 H2 : Hp} {m m1 m2 : List Addr} {A A1 A2 : Hs} {σ : L2.St} {env : Sl} {W : WX}
theorem Po.any {α β : Type} {Rr : Hp → List Addr → β → α → Prop} {Q : β → Hp → Prop} {r : RE α} {σ' : L2.St} {W' : WX} (h : Po K ca Rr F m H W σ Q r) (hx : ∀ C A, r ≠ .exc C A) : Po K ca Rr F m H W' σ' Q r := by
  cases r with
  | ok a A' => exact h
  | exc C A' => exact absurd rfl (hx C A')
  | stuck => exact h
end
section
variable {P : Program} {w : World} {K : PySem.W.Frag} {mg : Str → Option Value} {base : Heap} {k : Nat} {x qn : Str} {st : Stmt} {fa : Addr} {fd : FuncData} {N ps : List Str} {ca : CaT}
end
/-! ### the end -/
/-- no table is seen -/
def noT (H : Hp) : Hp := fun b => match H b with
  | some (.tbl _) => none
  | o => o
theorem noT_some {H : Hp} {b : Addr} {u : HO} (h : noT H b = some u) : H b = some u ∧ ∀ ps, u ≠ .tbl ps := by
  unfold noT at h
  split at h
  · cases h
  · rename_i n
    exact ⟨h, fun ps z => n ps (by rw [h, z])⟩
theorem noT_of {H : Hp} {b : Addr} {u : HO} (h : H b = some u) (n : ∀ ps, u ≠ .tbl ps) : noT H b = some u := by
  unfold noT
  split
  · rename_i ps z; rw [h] at z; exact absurd (Option.some.inj z) (n ps)
  · exact h
theorem SqL.noT {K : PySem.W.Frag} {H : Hp} {a : Addr} {xs : List V} (h : SqL K H a xs) : SqL K (noT H) a xs := by
  rcases h with (h | ⟨o, h⟩) | h
  · exact .inl (.inl (noT_of h (by intro _ z; cases z)))
  · exact .inl (.inr ⟨o, noT_of h (by intro _ z; cases z)⟩)
  · exact .inr h
theorem Rl.start {K : PySem.W.Frag} {ca : CaT} {H : Hp} (h : ∀ p ∈ ca.T, H p.1 = some (.tbl #[])) : Rl K ca (SM.noT H) [] [] H :=
  ⟨fun a o h => (noT_some h).1, rfl, List.nodup_nil, fun a h => by simp at h, fun i o a h => by simp at h, fun p hp => LamX.TabS.nil (h p hp), fun a ps h => (noT_some h).2 ps rfl⟩
end SM
/-! ### the script and a list -/
namespace L2
open PySem PySem.Spec PyProof.Rows
end L2
namespace SM
open PySem PySem.Spec PyProof.Rows L2
open DL (Ex ExK)
def oAddS (x y : D) (A : Hs) : RE D := match x, y with
  | .scr l, .ref j => match A[j]? with
    | some (.lst k) => if l.length + k.length ≤ sizeLine then alloc A (.lst (l ++ k)) else .stuck
    | _ => .stuck
  | _, _ => .stuck
theorem z77 {A : Hs} {l k : List D} {j : Nat} (h : A[j]? = some (.lst k)) (hl : l.length + k.length ≤ 16000000) : oAddS (.scr l) (.ref j) A = .ok (.ref A.length) (A ++ [.lst (l ++ k)]) := by
  unfold oAddS; simp only [h]; rw [if_pos (z0o hl)]; rfl
/-! ### equations for the plain proofs -/
theorem z4p {cts : List String} {fr : S} {th : E} {env : Sl} {A : Hs} : eTried cts fr th env A = trK cts fr (th env A) := id rfl
theorem z6t {cts : List String} {fr : S} {d : D} {A1 : Hs} : trK cts fr (.ok d A1) = retS (fr [none, some d, some .non, none] A1) := id rfl
theorem z33 {cts : List String} {fr : S} {C : String} {A1 : Hs} (h : C ∈ cts) : trK cts fr (.exc C A1) = retS (fr [none, none, some (.exc C), none] A1) := by
  show (if C ∈ cts then _ else _) = _
  rw [if_pos h]
theorem z3h {d : D} {A : Hs} : retS (.rt d A) = .ok d A := id rfl
theorem z4l {env : Sl} {A : Hs} : retS (.nx env A) = .ok .non A := id rfl
end SM

/-! ## min, max, sorted of data (ints, truths, texts, tuples of these); min, max with a default; max of a dict's keys -/
namespace L2
open PySem PySem.Spec PyProof.Rows PySem.W
theorem Vals.at_ {xs : List V} {us : List Value} (r : Vals xs us) : ∀ {i : Nat} {u : Value}, us[i]? = some u → ∃ x, xs[i]? = some x ∧ RelV x u := by
  induction r with
  | nil => intro i u h; simp at h
  | cons h t ih =>
    intro i u e
    cases i with
    | zero => rw [List.getElem?_cons_zero] at e ⊢; cases e; exact ⟨_, rfl, h⟩
    | succ i => rw [List.getElem?_cons_succ] at e ⊢; exact ih e
end L2
namespace SM
open PySem L2
open DL (Ex ExK)
def mx : List Int → Int
  | [] => 0
  | [a] => a
  | a :: r => if mx r ≤ a then a else mx r
def oMaxKDf (x z : D) (A : Hs) : RE D := match x with
  | .ref i => match A[i]? with
    | some (.dic false false l) => match intsOf (l.map Prod.fst) with
      | some [] => .ok z A
      | some ns => .ok (.int (mx ns)) A
      | none => .stuck
    | _ => .stuck
  | _ => .stuck
/-- a built-in called with one argument and one keyword -/
def eCK (f : D → D → Hs → RE D) (a b : E) : E := fun env A => (a env A).bind fun x A1 => (b env A1).bind fun y A2 => f x y A2
section
variable {K : PySem.W.Frag} {ca : CaT} {F F1 F2 H H1 H2 : Hp} {m m1 m2 : List Addr} {A A1 A2 : Hs} {W : WX} {ta tb : TE} {a b : E}
theorem allSome_len {α : Type} : ∀ {l : List (Option α)} {r : List α}, allSome l = some r → l.length = r.length
  | [], r, h => by cases h; rfl
  | some a :: l, r, h => by
    unfold allSome at h
    obtain ⟨r', h1, rfl⟩ := Option.map_eq_some_iff.mp h
    rw [List.length_cons, List.length_cons, allSome_len h1]
  | none :: _, _, h => by cases h
end
end SM

/-! ## dicts with tuple keys: values(), items(), pop; setdefault; what no run reaches -/
namespace L2
open PySem PySem.Spec PyProof.Rows
section
variable {X : Cx} {pins : List (Addr × Obj)} {σ : St} {H : Hp} {s : Shared} {d : Addr} {o : Obj}
end
section
variable {P : Program} {w : World} {K : PySem.W.Frag} {tg : Expr} {d : Addr} {o : Obj} {es : Array DictEntry} {ep : Nat}
end
section
variable {X : Cx} {tg e : Expr} {td : TE} {apos cpos : Pos}
end
end L2
namespace DT
open PySem PySem.W PySem.Calls PyProof.Rows PyProof.V PySem.Spec
section
variable {K : Type} [DecidableEq K] {prog : Program} {w : World} {knd : HeapKind prog w K} {A : Around} {E : Value → Shared → Prop} {s : Shared}
end
end DT
namespace L2
open PySem PySem.Spec PyProof.Rows
end L2
namespace SM
open PySem L2
open DL (Ex ExK)
section
variable {K : PySem.W.Frag} {ca : CaT} {F F1 F2 H H1 H2 : Hp} {m m1 m2 : List Addr} {A A1 A2 : Hs} {σ : L2.St} {env : Sl} {W : WX} {Q : VK}
variable {to ti ta tb tc te tz : TE} {a b c e : E} {i : Nat} {d : D} {ts : TA} {as : As} {x y : V} {dx dy : D}
/-! walks -/
def wkVT : Hs → D → Option Wk := wdA fun t l => if t = true then some (l.map Prod.snd) else none
def wkIT : Hs → D → Option Wk := wdA fun t l => if t = true then some (l.map fun p => .tup [p.1, p.2]) else none
/-! pop -/
def oDPopT (x y : D) (A : Hs) : RE D := match x with
  | .ref i => match A[i]? with
    | some (.dic true false l) => if keyOk true y = true then match kget l y with
      | some d => .ok d (A.set i (.dic true false (kdel l y)))
      | none => .stuck
      else .stuck
    | _ => .stuck
  | _ => .stuck
def oDPopT2 (x y z : D) (A : Hs) : RE D := match x with
  | .ref i => match A[i]? with
    | some (.dic true false l) => if keyOk true y = true then match kget l y with
      | some d => .ok d (A.set i (.dic true false (kdel l y)))
      | none => .ok z A
      else .stuck
    | _ => .stuck
  | _ => .stuck
def isDicU (A : Hs) : D → Bool
  | .ref i => match A[i]? with
    | some (.dic _ false _) => true
    | _ => false
  | _ => false
def eBD (o : D → List D → Hs → RE D) (a : E) (as : As) : E := fun env A => (a env A).bind fun x A1 => if isDicU A1 x = true then (as env A1).bind fun ds A2 => o x ds A2 else .stuck
def d1_ (f : D → D → Hs → RE D) (x : D) : List D → Hs → RE D
  | [y], A => f x y A
  | _, _ => .stuck
def d2_ (f : D → D → D → Hs → RE D) (x : D) : List D → Hs → RE D
  | [y, z], A => f x y z A
  | _, _ => .stuck
/-! setdefault -/
def oDSetd (x y z : D) (A : Hs) : RE D := match x with
  | .ref i => match A[i]? with
    | some (.dic false false l) => if (keyK y).isSome = true ∧ l.length < sizeLine then match kget l y with
      | some d => .ok d A
      | none => .ok z (A.set i (.dic false false (kput l y z)))
      else .stuck
    | _ => .stuck
  | _ => .stuck
def eDSetd (a b c : E) : E := fun env A => (a env A).bind fun x A1 => if isDic A1 x then (b env A1).bind fun y A2 => (c env A2).bind fun z A3 => oDSetd x y z A3 else .stuck
/-! list(d) -/
def oListT (x : D) (A : Hs) : RE D := match x with
  | .ref i => match A[i]? with
    | some (.dic true _ l) => alloc A (.lst (l.map Prod.fst))
    | _ => .stuck
  | _ => .stuck
end
/-! for plain proofs -/
section
variable {A : Hs} {i : Nat} {env : Sl} {x y z d : D} {t lk gt : Bool} {l : List (D × D)} {a b c : E} {as : As} {ds : List D} {o : D → List D → Hs → RE D} {o2 : D → D → Hs → RE D}
theorem z5l : wkVT A (.ref i) = wd_ A i (fun t l => if t = true then some (l.map Prod.snd) else none) A[i]? := rfl
theorem z76 : wkIT A (.ref i) = wd_ A i (fun t l => if t = true then some (l.map fun p => .tup [p.1, p.2]) else none) A[i]? := rfl
theorem zc1 : eBD o a as env A = (a env A).bind fun x A1 => if isDicU A1 x = true then (as env A1).bind fun ds A2 => o x ds A2 else .stuck := rfl
def idu_ : Option O → Bool
  | some (.dic _ false _) => true
  | _ => false
theorem z2e : isDicU A (.ref i) = idu_ A[i]? := by
  unfold isDicU idu_
  cases h : A[i]? with
  | none => simp only [h]
  | some u =>
    simp only [h] <;> (cases u with
    | dic t lk l => cases lk <;> rfl
    | _ => rfl)
theorem z94 : idu_ (some (.dic t false l)) = true := rfl
theorem zai {f : D → D → Hs → RE D} : d1_ f x [y] A = f x y A := rfl
theorem zaj {f : D → D → D → Hs → RE D} : d2_ f x [y, z] A = f x y z A := rfl
def dpT_ (A : Hs) (i : Nat) (y : D) : Option O → RE D
  | some (.dic true false l) => if keyOk true y = true then match kget l y with
    | some d => .ok d (A.set i (.dic true false (kdel l y)))
    | none => .stuck
    else .stuck
  | _ => .stuck
theorem z1x : oDPopT (.ref i) y A = dpT_ A i y A[i]? := by
  unfold oDPopT dpT_
  cases h : A[i]? with
  | none => simp only [h]
  | some u =>
    simp only [h] <;> (cases u with
    | dic t lk l => cases t <;> cases lk <;> rfl
    | _ => rfl)
theorem z8y {d : D} (hk : keyOk true y = true) (h : kget l y = some d) : dpT_ A i y (some (.dic true false l)) = .ok d (A.set i (.dic true false (kdel l y))) := by
  unfold dpT_
  simp only
  rw [if_pos hk, h]
def dpT2_ (A : Hs) (i : Nat) (y z : D) : Option O → RE D
  | some (.dic true false l) => if keyOk true y = true then match kget l y with
    | some d => .ok d (A.set i (.dic true false (kdel l y)))
    | none => .ok z A
    else .stuck
  | _ => .stuck
theorem z1m : oDPopT2 (.ref i) y z A = dpT2_ A i y z A[i]? := by
  unfold oDPopT2 dpT2_
  cases h : A[i]? with
  | none => simp only [h]
  | some u =>
    simp only [h] <;> (cases u with
    | dic t lk l => cases t <;> cases lk <;> rfl
    | _ => rfl)
theorem z7c {d : D} (hk : keyOk true y = true) (h : kget l y = some d) : dpT2_ A i y z (some (.dic true false l)) = .ok d (A.set i (.dic true false (kdel l y))) := by
  unfold dpT2_
  simp only
  rw [if_pos hk, h]
theorem z6a (hk : keyOk true y = true) (h : kget l y = none) : dpT2_ A i y z (some (.dic true false l)) = .ok z A := by
  unfold dpT2_
  simp only
  rw [if_pos hk, h]
theorem z3c : eDSetd a b c env A = (a env A).bind fun x A1 => if isDic A1 x = true then (b env A1).bind fun y A2 => (c env A2).bind fun z A3 => oDSetd x y z A3 else .stuck := rfl
def dsd_ (A : Hs) (i : Nat) (y z : D) : Option O → RE D
  | some (.dic false false l) => if (keyK y).isSome = true ∧ l.length < sizeLine then match kget l y with
    | some d => .ok d A
    | none => .ok z (A.set i (.dic false false (kput l y z)))
    else .stuck
  | _ => .stuck
theorem z2y : oDSetd (.ref i) y z A = dsd_ A i y z A[i]? := by
  unfold oDSetd dsd_
  cases h : A[i]? with
  | none => simp only [h]
  | some u =>
    simp only [h] <;> (cases u with
    | dic t lk l => cases t <;> cases lk <;> rfl
    | _ => rfl)
theorem z9t {d : D} (hk : (keyK y).isSome = true) (hl : l.length < 16000000) (h : kget l y = some d) : dsd_ A i y z (some (.dic false false l)) = .ok d A := by
  unfold dsd_
  simp only
  rw [if_pos ⟨hk, Nat.lt_of_lt_of_le hl (by rw [sizeLine_eq]; decide)⟩, h]
theorem z9y (hk : (keyK y).isSome = true) (hl : l.length < 16000000) (h : kget l y = none) : dsd_ A i y z (some (.dic false false l)) = .ok z (A.set i (.dic false false (kput l y z))) := by
  unfold dsd_
  simp only
  rw [if_pos ⟨hk, Nat.lt_of_lt_of_le hl (by rw [sizeLine_eq]; decide)⟩, h]
theorem zbb : eCK o2 a b env A = (a env A).bind fun x A1 => (b env A1).bind fun y A2 => o2 x y A2 := rfl
def mxd_ (z : D) (A : Hs) : Option O → RE D
  | some (.dic false false l) => match intsOf (l.map Prod.fst) with
    | some [] => .ok z A
    | some ns => .ok (.int (mx ns)) A
    | none => .stuck
  | _ => .stuck
theorem z0x : oMaxKDf (.ref i) z A = mxd_ z A A[i]? := by
  unfold oMaxKDf mxd_
  cases h : A[i]? with
  | none => simp only [h]
  | some u =>
    simp only [h] <;> (cases u with
    | dic t lk l => cases t <;> cases lk <;> first | rfl | (simp only; cases intsOf (l.map Prod.fst) with | none => rfl | some ns => cases ns <;> rfl)
    | _ => rfl)
theorem z95 : mxd_ z A (some (.dic false false [])) = .ok z A := rfl
theorem z9w {ns : List Int} (h : l.map Prod.fst = ns.map D.int) (hn : ns ≠ []) : mxd_ z A (some (.dic false false l)) = .ok (.int (mx ns)) A := by
  unfold mxd_
  simp only
  rw [h, z0l]
  cases ns with
  | nil => exact absurd rfl hn
  | cons n ns => rfl
def lT_ (A : Hs) : Option O → RE D
  | some (.dic true _ l) => .ok (.ref A.length) (A ++ [.lst (l.map Prod.fst)])
  | _ => .stuck
theorem z2m : oListT (.ref i) A = lT_ A A[i]? := by
  unfold oListT lT_
  cases h : A[i]? with
  | none => simp only [h]
  | some u =>
    simp only [h] <;> (cases u with
    | dic t lk l => cases t <;> cases lk <;> rfl
    | _ => rfl)
theorem zbe : lT_ A (some (.dic true lk l)) = .ok (.ref A.length) (A ++ [.lst (l.map Prod.fst)]) := rfl
end
end SM

/-! ## dicts with tuple keys: setdefault -/
namespace L2
open PySem PySem.Spec PySem.Calls PyProof.Rows PyProof.V
end L2
namespace SM
open PySem L2
open DL (Ex ExK)
section
variable {K : PySem.W.Frag} {ca : CaT} {F : Hp} {H : Hp} {m : List Addr} {A : Hs} {σ : L2.St} {env : Sl} {W : WX} {Q : VK} {i : Nat} {d x y z : D} {l : List (D × D)}
def oDSetdT (x y z : D) (A : Hs) : RE D := match x with
  | .ref i => match A[i]? with
    | some (.dic true false l) => if keyOk true y = true ∧ l.length < sizeLine then match kget l y with
      | some d => .ok d A
      | none => .ok z (A.set i (.dic true false (kput l y z)))
      else .stuck
    | _ => .stuck
  | _ => .stuck
def dst_ (A : Hs) (i : Nat) (y z : D) : Option O → RE D
  | some (.dic true false l) => if keyOk true y = true ∧ l.length < sizeLine then match kget l y with
    | some d => .ok d A
    | none => .ok z (A.set i (.dic true false (kput l y z)))
    else .stuck
  | _ => .stuck
theorem z11 : oDSetdT (.ref i) y z A = dst_ A i y z A[i]? := by
  unfold oDSetdT dst_
  cases h : A[i]? with
  | none => simp only [h]
  | some u =>
    simp only [h] <;> (cases u with
    | dic t lk l => cases t <;> cases lk <;> rfl
    | _ => rfl)
theorem z9z {d : D} (hk : keyOk true y = true) (hl : l.length < 16000000) (h : kget l y = some d) : dst_ A i y z (some (.dic true false l)) = .ok d A := by
  unfold dst_
  simp only
  rw [if_pos ⟨hk, Nat.lt_of_lt_of_le hl (by rw [sizeLine_eq]; decide)⟩, h]
theorem z82 (hk : keyOk true y = true) (hl : l.length < 16000000) (h : kget l y = none) : dst_ A i y z (some (.dic true false l)) = .ok z (A.set i (.dic true false (kput l y z))) := by
  unfold dst_
  simp only
  rw [if_pos ⟨hk, Nat.lt_of_lt_of_le hl (by rw [sizeLine_eq]; decide)⟩, h]
end
end SM

/-! ## d.update(pairs) -/
namespace L2
open PySem PySem.Spec PySem.Calls PyProof.Rows PyProof.V
end L2
namespace SM
open PySem L2
open DL (Ex ExK)
section
variable {K : PySem.W.Frag} {ca : CaT} {F : Hp} {H : Hp} {m : List Addr} {A : Hs} {σ : L2.St} {env : Sl} {W : WX} {Q : VK} {i j : Nat} {d x y z : D} {l : List (D × D)}
def oUpdK (x y : D) (A : Hs) : RE D := match x, y with
  | .ref i, .ref j => match A[i]?, A[j]? with
    | some (.dic false false l), some (.lst r) => match pairsD r with
      | some qs => if l.length + qs.length ≤ sizeLine then .ok .non (A.set i (.dic false false (kmerge l qs))) else .stuck
      | none => .stuck
    | _, _ => .stuck
  | _, _ => .stuck
def up_ (A : Hs) (i : Nat) : Option O → Option O → RE D
  | some (.dic false false l), some (.lst r) => match pairsD r with
    | some qs => if l.length + qs.length ≤ sizeLine then .ok .non (A.set i (.dic false false (kmerge l qs))) else .stuck
    | none => .stuck
  | _, _ => .stuck
theorem z3v : oUpdK (.ref i) (.ref j) A = up_ A i A[i]? A[j]? := by
  unfold oUpdK up_
  cases h : A[i]? with
  | none => simp only [h]
  | some u =>
    cases k : A[j]? with
    | none => simp only [h, k]
    | some w => simp only [h, k] <;> first | done | (cases u with
      | dic t lk l => cases t <;> cases lk <;> cases w <;> rfl
      | _ => cases w <;> rfl)
theorem zbo {r : List D} {qs : List (D × D)} (h : pairsD r = some qs) (hl : l.length + qs.length ≤ 16000000) : up_ A i (some (.dic false false l)) (some (.lst r)) = .ok .non (A.set i (.dic false false (kmerge l qs))) := by
  unfold up_
  simp only
  rw [h]
  simp only
  rw [if_pos (Nat.le_trans hl (by rw [sizeLine_eq]; decide))]
end
end SM

/-! ## walks within walks of one dict -/
namespace SM
open PySem L2
open DL (Ex ExK)
def isLk (A : Hs) : Option Nat → Bool
  | some i => match A[i]? with
    | some (.dic _ true _) => true
    | _ => false
  | none => false
def sLkN (x : E) (f : S) : S := fun env A => if isLk A (pkR (x env A)) = true then f env A else sLk x f env A
def eLkN (x : E) (f : E) : E := fun env A => if isLk A (pkR (x env A)) = true then f env A else eLk x f env A
section
variable {K : PySem.W.Frag} {ca : CaT} {W : WX}
end
section
variable {x : E} {f : S} {g : E} {env : Sl} {A : Hs} {i : Nat} {t b : Bool} {l : List (D × D)}
def lkb_ : Option O → Bool
  | some (.dic _ true _) => true
  | _ => false
theorem z7b : isLk A (some i) = lkb_ A[i]? := by
  unfold isLk lkb_
  cases h : A[i]? with
  | none => simp only [h]
  | some u => simp only [h] <;> first | done | (cases u with
    | dic t lk l => cases lk <;> rfl
    | _ => rfl)
theorem z7y : lkb_ (some (.dic t b l)) = b := by cases b <;> rfl
theorem z8b : sLkN x f env A = if isLk A (pkR (x env A)) = true then f env A else sLk x f env A := rfl
theorem z8c : eLkN x g env A = if isLk A (pkR (x env A)) = true then g env A else eLk x g env A := rfl
end
end SM

namespace SM
open PySem L2
open DL (Ex ExK)
def oLenL (x : D) (A : Hs) : RE D := match x with
  | .ref i => match A[i]? with
    | some (.dic false true l) => .ok (.int (l.length : Int)) A
    | _ => oLen x A
  | _ => oLen x A
section
variable {K : PySem.W.Frag} {ca : CaT} {A : Hs} {i : Nat} {l : List (D × D)}
def lnL_ (A : Hs) (i : Nat) : Option O → RE D
  | some (.dic false true l) => .ok (.int (l.length : Int)) A
  | _ => oLen (.ref i) A
theorem z4x : oLenL (.ref i) A = lnL_ A i A[i]? := rfl
theorem z8p : lnL_ A i (some (.dic false true l)) = .ok (.int (l.length : Int)) A := rfl
theorem z9h : lnL_ A i (some (.dic false false l)) = oLen (.ref i) A := rfl
theorem z8r {k : List D} : lnL_ A i (some (.lst k)) = oLen (.ref i) A := rfl
theorem z3g {k : List D} : oLenL (.tup k) A = oLen (.tup k) A := rfl
theorem z54 {k : List D} : oLenL (.scr k) A = oLen (.scr k) A := rfl
end
end SM

/-! ## dicts whose keys are nested tuples of ints (PND) -/
namespace SM
open PySem L2
open DL (Ex ExK)
mutual
def nkD : D → Option NestedKey
  | .int i => some (.num i)
  | .non => some .none
  | .tup l => (nkDs l).map .tup
  | _ => none
def nkDs : List D → Option (List NestedKey)
  | [] => some []
  | d :: r => match nkD d, nkDs r with
    | some k, some ks => some (k :: ks)
    | _, _ => none
end
/-- a tuple as a key -/
def keyN (d : D) : Option NestedKey := match d with
  | .tup l => match nkDs l with
    | some ks => if NestedKey.depthAll ks ≤ 7 then some (.tup ks) else none
    | none => none
  | _ => none
def nAt (A : Hs) (x : D) : Option (List (NestedKey × D)) := match x with
  | .ref i => match A[i]? with
    | some (.nd l) => some l
    | _ => none
  | _ => none
def nget (l : List (NestedKey × D)) (k : NestedKey) : Option D := (l.find? fun e => decide (e.1 = k)).map (·.2)
def nput (l : List (NestedKey × D)) (k : NestedKey) (d : D) : List (NestedKey × D) :=
  if (nget l k).isSome then l.map fun x => if x.1 = k then (x.1, d) else x else l ++ [(k, d)]
def eNNew : E := fun _ A => alloc A (.nd [])
def oNIn (neg : Bool) (y x : D) (A : Hs) : RE D := match nAt A x, keyN y with
  | some l, some k => .ok (.bl (if neg then !(nget l k).isSome else (nget l k).isSome)) A
  | _, _ => .stuck
def oNGet (x y : D) (A : Hs) : RE D := match nAt A x, keyN y with
  | some l, some k => match nget l k with
    | some d => .ok d A
    | none => .stuck
  | _, _ => .stuck
def oNGetD (x y z : D) (A : Hs) : RE D := match nAt A x, keyN y with
  | some l, some k => .ok ((nget l k).getD z) A
  | _, _ => .stuck
def eNGet1 (o i : E) : E := fun env A => (o env A).bind fun x A1 => if (nAt A1 x).isSome then (i env A1).bind fun y A2 => oNGetD x y .non A2 else .stuck
def eNGet2 (o i e : E) : E := fun env A => (o env A).bind fun x A1 => if (nAt A1 x).isSome then (i env A1).bind fun y A2 => (e env A2).bind fun z A3 => oNGetD x y z A3 else .stuck
def nPut (A : Hs) (x y v : D) : Option Hs := match x, nAt A x, keyN y with
  | .ref i, some l, some k => if l.length < sizeLine then some (A.set i (.nd (nput l k v))) else none
  | _, _, _ => none
def sNPutF (o i a : E) : S := fun env A => ofE env (a env A) fun v A1 => ofE env (o env A1) fun x A2 => ofE env (i env A2) fun y A3 => ofH env (nPut A3 x y v)
section
variable {K : PySem.W.Frag} {ca : CaT} {F F1 F2 H H1 H2 : Hp} {m m1 m2 : List Addr} {A A1 A2 : Hs} {σ : L2.St} {env : Sl} {W : WX} {Q : VK}
variable {ti to ta tz : TE} {o a b e : E} {i : Nat} {x y v : V} {dx dy d : D} {l : List (NestedKey × D)} {k : NestedKey} {kvs : List (NestedKey × Addr × V)}
end
/-! equations -/
section
variable {A : Hs} {env : Sl} {o a b e : E} {i : Nat} {d y z v : D} {l : List (NestedKey × D)} {k k' : NestedKey} {neg : Bool}
theorem z7d : eNNew env A = .ok (.ref A.length) (A ++ [.nd []]) := rfl
theorem z5a : eNGet1 o a env A = (o env A).bind fun x A1 => if (nAt A1 x).isSome then (a env A1).bind fun y A2 => oNGetD x y .non A2 else .stuck := rfl
theorem z5b : eNGet2 o a e env A = (o env A).bind fun x A1 => if (nAt A1 x).isSome then (a env A1).bind fun y A2 => (e env A2).bind fun z A3 => oNGetD x y z A3 else .stuck := rfl
theorem z3f : sNPutF o b a env A = ofE env (a env A) fun v A1 => ofE env (o env A1) fun x A2 => ofE env (b env A2) fun y A3 => ofH env (nPut A3 x y v) := rfl
def nd_ : Option O → Option (List (NestedKey × D))
  | some (.nd l) => some l
  | _ => none
theorem z9d : nAt A (.ref i) = nd_ A[i]? := by
  unfold nAt nd_
  simp only
theorem zc9 : nd_ (some (.nd l)) = some l := rfl
def ndi_ (A : Hs) (k : Option NestedKey) (neg : Bool) : Option (List (NestedKey × D)) → RE D
  | some l => match k with
    | some k => .ok (.bl (if neg then !(nget l k).isSome else (nget l k).isSome)) A
    | none => .stuck
  | none => .stuck
theorem z5y : oNIn neg y (.ref i) A = ndi_ A (keyN y) neg (nd_ A[i]?) := by
  unfold oNIn ndi_; rw [z9d]
  cases nd_ A[i]? <;> cases keyN y <;> rfl
theorem z9g : ndi_ A (some k) neg (some l) = .ok (.bl (if neg then !(nget l k).isSome else (nget l k).isSome)) A := rfl
def ndg_ (A : Hs) (k : Option NestedKey) : Option (List (NestedKey × D)) → RE D
  | some l => match k with
    | some k => at_ A (nget l k)
    | none => .stuck
  | none => .stuck
theorem z3e : oNGet (.ref i) y A = ndg_ A (keyN y) (nd_ A[i]?) := by
  unfold oNGet ndg_; rw [z9d]
  cases nd_ A[i]? with
  | none => cases keyN y <;> rfl
  | some l =>
    cases keyN y with
    | none => rfl
    | some k => simp only; unfold at_; cases nget l k <;> rfl
theorem z8j : ndg_ A (some k) (some l) = at_ A (nget l k) := rfl
def ndd_ (A : Hs) (k : Option NestedKey) (z : D) : Option (List (NestedKey × D)) → RE D
  | some l => match k with
    | some k => .ok ((nget l k).getD z) A
    | none => .stuck
  | none => .stuck
theorem z2g : oNGetD (.ref i) y z A = ndd_ A (keyN y) z (nd_ A[i]?) := by
  unfold oNGetD ndd_; rw [z9d]
  cases nd_ A[i]? <;> cases keyN y <;> rfl
theorem z9i : ndd_ A (some k) z (some l) = .ok ((nget l k).getD z) A := rfl
def ndp_ (A : Hs) (i : Nat) (k : Option NestedKey) (v : D) : Option (List (NestedKey × D)) → Option Hs
  | some l => match k with
    | some k => if l.length < sizeLine then some (A.set i (.nd (nput l k v))) else none
    | none => none
  | none => none
theorem z65 : nPut A (.ref i) y v = ndp_ A i (keyN y) v (nd_ A[i]?) := by
  unfold nPut ndp_; rw [z9d]
  cases nd_ A[i]? <;> cases keyN y <;> rfl
theorem z93 (h : l.length < 16000000) : ndp_ A i (some k) v (some l) = some (A.set i (.nd (nput l k v))) := if_pos (Nat.lt_of_lt_of_le h (by rw [sizeLine_eq]; decide))
end
end SM
namespace DL
open PySem L2
section
variable {X : Cx} {k j : Nat} {x : Str} {C : Addr} {sp : Sp} {p pos : Pos}
end
end DL
namespace SM
open PySem L2
/-- a module's own tuple of texts -/
def KTplS (K : PySem.W.Frag) (a : Addr) (ns : List Str) : Prop := ∃ (o : Obj) (its : Array Value) (n : Nat), K.lookup a = some o ∧ o.cls = .type "tuple" ∧ o.data = .seq its n ∧ its.size ≤ sizeLine ∧ Vals (ns.map V.str) its.toList
theorem repL_strs {K : PySem.W.Frag} {ca : CaT} {F : Hp} {m : List Addr} : ∀ ns : List Str, RepL K ca F m (ns.map V.str) (ns.map D.str)
  | [] => .nil
  | n :: ns => .cons (.str n) (repL_strs ns)
theorem KTplS.rep {K : PySem.W.Frag} {ca : CaT} {a : Addr} {ns : List Str} {ts : List String} (e : ts.map fS = ns) (h : KTplS K a ns) (F : Hp) (m : List Addr) : Rep K ca F m (.ref a) (.wt (ts.map dS)) := by
  have : ts.map dS = ns.map D.str := by rw [← e, List.map_map]; rfl
  rw [this]
  exact .wt (.inr h) (repL_strs ns)
end SM

/-! ## dict(pairs) where the keys are nested tuples -/
namespace L2
open PySem PySem.Spec PySem.Calls PyProof.Rows PyProof.V
end L2
namespace SM
open PySem L2
open DL (Ex ExK)
def pairsN : List D → Option (List (NestedKey × D))
  | [] => some []
  | .tup [k, v] :: r => match keyN k, pairsN r with
    | some kk, some ps => some ((kk, v) :: ps)
    | _, _ => none
  | _ => none
def nputs (acc ps : List (NestedKey × D)) : List (NestedKey × D) := ps.foldl (fun acc e => nput acc e.1 e.2) acc
def oDictN (x : D) (A : Hs) : RE D := match x with
  | .ref i => match A[i]? with
    | some (.lst l) => match pairsN l with
      | some ps => if l.length ≤ sizeLine then alloc A (.nd (nputs [] ps)) else .stuck
      | none => .stuck
    | _ => .stuck
  | _ => .stuck
section
variable {K : PySem.W.Frag} {ca : CaT} {F F1 F2 H H1 H2 : Hp} {m m1 m2 : List Addr} {A A1 A2 : Hs} {W : WX} {te : TE} {a : E}
end
section
variable {A : Hs} {i : Nat} {l : List D} {ps : List (NestedKey × D)}
def odn_ (A : Hs) : Option O → RE D
  | some (.lst l) => match pairsN l with
    | some ps => if l.length ≤ sizeLine then .ok (.ref A.length) (A ++ [.nd (nputs [] ps)]) else .stuck
    | none => .stuck
  | _ => .stuck
theorem z1t : oDictN (.ref i) A = odn_ A A[i]? := by
  unfold oDictN odn_
  cases h : A[i]? with
  | none => simp only [h]
  | some o => cases o <;> simp only [h] <;> first | rfl | (rename_i l; cases pairsN l <;> rfl)
end
end SM

/-! ## zip of two lists; <= of tuples of ints -/
namespace L2
open PySem PySem.Spec PyProof.Rows
end L2
namespace SM
open PySem L2
section
variable {K : PySem.W.Frag} {ca : CaT} {W : WX} {F H : Hp} {m : List Addr} {A B : Hs} {ts : TA} {as : As}
def leT (ns ms : List Int) : Bool := Ob.lexAt (fun j => decide (ns.getD j 0 = ms.getD j 0)) (fun j => decide (ns.getD j 0 ≤ ms.getD j 0)) (decide (ns.length ≤ ms.length)) 0 (min ns.length ms.length)
def oLeX (x y : D) (A : Hs) : RE D := match x, y with
  | .tup l, .tup m => match intsOf l, intsOf m with
    | some ns, some ms => .ok (.bl (leT ns ms)) A
    | _, _ => .stuck
  | .int i, .int j => .ok (.bl (decide (i ≤ j))) A
  | _, _ => .stuck
theorem z5n {a b c d : Int} : oLeX (.tup [.int a, .int b]) (.tup [.int c, .int d]) A = .ok (.bl (if a = c then decide (b ≤ d) else decide (a ≤ c))) A := by
  show RE.ok (D.bl (leT [a, b] [c, d])) A = _
  congr 2
  show (if decide (a = c) = true then (if decide (b = d) = true then decide (2 ≤ 2) else decide (b ≤ d)) else decide (a ≤ c)) = _
  by_cases h : a = c
  · rw [if_pos (decide_eq_true h), if_pos h]
    by_cases k : b = d
    · rw [if_pos (decide_eq_true k), k]; simp
    · rw [if_neg (by simpa using k)]
  · rw [if_neg (by simpa using h), if_neg h]
/-! zip -/
def zipL (l m : List D) : List D := (l.zip m).map fun p => .tup [p.1, p.2]
def wkZ (A : Hs) (ds : List D) : Option Wk := match ds with
  | [.ref i, .ref j] => match A[i]?, A[j]? with
    | some (.lst l), some (.lst k) => some ⟨zipL l k, fun A' => A'[i]? = some (.lst l) ∧ A'[j]? = some (.lst k)⟩
    | _, _ => none
  | _ => none
def wZ (as : As) : Sl → Hs → RE Wk := fun env A => (as env A).bind fun ds A1 => match wkZ A1 ds with
  | some k => .ok k A1
  | none => .stuck
theorem wZ_ {env : Sl} : wZ as env A = (as env A).bind fun x A1 => wk_ (wkZ A1 x) A1 := by unfold wZ wk_; rfl
def wz_ (A : Hs) (i j : Nat) : Option O → Option O → Option Wk
  | some (.lst l), some (.lst k) => some ⟨zipL l k, fun A' => A'[i]? = some (.lst l) ∧ A'[j]? = some (.lst k)⟩
  | _, _ => none
theorem zas {i j : Nat} {l k : List D} : wz_ A i j (some (.lst l)) (some (.lst k)) = some ⟨zipL l k, fun A' => A'[i]? = some (.lst l) ∧ A'[j]? = some (.lst k)⟩ := rfl
theorem za7 {i j : Nat} : wkZ A [.ref i, .ref j] = wz_ A i j A[i]? A[j]? := by
  unfold wkZ wz_
  simp only
end
end SM

/-! ## != of two dicts of dicts of ints that are alike -/
namespace PySem.W
open Lean Elab Tactic Meta PySem PySem.Calls PyProof.Rows PyProof.V PySem.Spec
section
variable {prog : Program} {w : World} {K : Type} [DecidableEq K] {knd : KeyKind prog w K} {A : Around} {E : Value → Shared → Prop} {s : Shared}
end
end PySem.W
namespace L2
open PySem PySem.Spec PyProof.Rows PySem.W
end L2
namespace SM
open PySem L2
section
variable {K : PySem.W.Frag} {ca : CaT} {W : WX} {F H : Hp} {m : List Addr} {A B : Hs}
end
end SM
/-! ## list(d), d a dict with int or text keys -/
namespace SM
open PySem L2
section
variable {K : PySem.W.Frag} {ca : CaT} {W : WX} {F H : Hp} {m : List Addr} {A B : Hs}
end
end SM

/-! ## sorted(d), d a dict with tuple keys, or with int keys -/
namespace L2
open PySem PySem.Spec PyProof.Rows PySem.W
end L2
namespace SM
open PySem L2
open DL (Ex ExK)
section
variable {K : PySem.W.Frag} {ca : CaT} {F F1 F2 H H1 H2 : Hp} {m m1 m2 : List Addr} {A A1 A2 : Hs} {W : WX}
end
end SM

/-! ## d.update(another dict) -/
namespace L2
open PySem PySem.Spec PySem.Calls PyProof.Rows PyProof.V
end L2
namespace SM
open PySem L2
open DL (Ex ExK)
section
variable {K : PySem.W.Frag} {ca : CaT} {F : Hp} {H : Hp} {m : List Addr} {A : Hs} {σ : L2.St} {env : Sl} {W : WX} {Q : VK} {i j : Nat} {d x y z : D} {l : List (D × D)}
def upD_ (A : Hs) (i j : Nat) : Option O → Option O → RE D
  | some (.dic false false l), some (.dic false false r) => if i ≠ j ∧ l.length + r.length ≤ sizeLine then .ok .non (A.set i (.dic false false (kmerge l r))) else .stuck
  | _, _ => .stuck
def oUpdD (x y : D) (A : Hs) : RE D := match x, y with
  | .ref i, .ref j => upD_ A i j A[i]? A[j]?
  | _, _ => .stuck
theorem z4q : oUpdD (.ref i) (.ref j) A = upD_ A i j A[i]? A[j]? := rfl
theorem z8w {r : List (D × D)} (h : i ≠ j) (hl : l.length + r.length ≤ 16000000) : upD_ A i j (some (.dic false false l)) (some (.dic false false r)) = .ok .non (A.set i (.dic false false (kmerge l r))) := by
  unfold upD_
  simp only
  rw [if_pos ⟨h, Nat.le_trans hl (by rw [sizeLine_eq]; decide)⟩]
end
end SM

/-! ## text.count(text) -/
namespace L2
open PySem PySem.Spec PySem.Calls PyProof.Rows PyProof.V
end L2
namespace SM
open PySem L2 DL
section
variable {K : PySem.W.Frag} {ca : CaT} {W : WX} {to te : TE} {a b : E}
end
end SM

/-! ## list(range(n)) -/
namespace SM
open PySem L2 DL
def eLstRg (a : E) : E := fun env A => (a env A).bind fun x A1 => match x with
  | .int n => if 0 ≤ n ∧ n ≤ 16777216 then .ok (.ref A1.length) (A1 ++ [.lst (rgL 0 1 n.toNat)]) else .stuck
  | _ => .stuck
section
variable {K : PySem.W.Frag} {ca : CaT} {W : WX} {te : TE} {a : E} {A : Hs} {n : Int}
def lstRg_ (A : Hs) : D → RE D
  | .int n => if 0 ≤ n ∧ n ≤ 16777216 then .ok (.ref A.length) (A ++ [.lst (rgL 0 1 n.toNat)]) else .stuck
  | _ => .stuck
theorem z39 {env : Sl} : eLstRg a env A = (a env A).bind fun x A1 => lstRg_ A1 x := by
  unfold eLstRg lstRg_; rfl
theorem z51 (h : 0 ≤ n ∧ n ≤ 16777216) : lstRg_ A (.int n) = .ok (.ref A.length) (A ++ [.lst (rgL 0 1 n.toNat)]) := if_pos h
end
end SM

/-! ## repr(data), where nothing is under way; defs that are called only there -/
namespace L2
open PySem PySem.Spec PyProof.Rows
def kyPy : Key → PyData
  | .inl i => .int i
  | .inr x => .str x
/-- none, truths, ints, texts -/
inductive Fl : V → PyData → Prop
  | non : Fl .non .none
  | bl (b : Bool) : Fl (.bl b) (.bool b)
  | int (i : Int) : Fl (.int i) (.int i)
  | str (x : Str) : Fl (.str x) (.str x)
inductive FlKv : List (Key × V) → List (PyData × PyData) → Prop
  | nil : FlKv [] []
  | cons {k : Key} {v : V} {d : PyData} {r : List (Key × V)} {s : List (PyData × PyData)} : Fl v d → FlKv r s → FlKv ((k, v) :: r) ((kyPy k, d) :: s)
/-! data without lists, flat dicts with int and text keys among them -/
mutual
inductive Dq (K : PySem.W.Frag) (H : Hp) : V → PyData → Prop
  | fl {v : V} {d : PyData} : Fl v d → Dq K H v d
  | tup {a : Addr} {xs : List V} {ds : List PyData} : SqT K H a xs → DqAll K H xs ds → Dq K H (.ref a) (.tuple ds)
  | dic {a : Addr} {kvs : List (Key × V)} {ps : List (PyData × PyData)} : Rd H a (.dK kvs) → FlKv kvs ps → Dq K H (.ref a) (.dict ps)
inductive DqAll (K : PySem.W.Frag) (H : Hp) : List V → List PyData → Prop
  | nil : DqAll K H [] []
  | cons {v : V} {vs : List V} {d : PyData} {ds : List PyData} : Dq K H v d → DqAll K H vs ds → DqAll K H (v :: vs) (d :: ds)
end
section
variable {X : Cx} {pins : List (Addr × Obj)} {σ : St} {H : Hp} {s : Shared}
theorem Fl.reads {h : Heap} : ∀ {v : V} {d : PyData} {u : Value}, Fl v d → RelV v u → Reads h u d []
  | _, _, _, .non, r => by cases r; exact .none
  | _, _, _, .bl b, r => by cases r; exact .bool b
  | _, _, _, .int i, r => by obtain ⟨t, rfl⟩ := r; exact .int i t
  | _, _, _, .str x, r => by obtain ⟨t, rfl⟩ := r; exact .str x t
theorem key_reads {h : Heap} {k : Key} {u : Value} (e : keyIs k u = true) : Reads h u (kyPy k) [] := by
  rcases keyIs_shape e with ⟨i, t, rfl, rfl⟩ | ⟨x, t, rfl, rfl⟩
  · exact .int i t
  · exact .str x t
theorem kv_reads {P : Program} {w : World} {h : Heap} : ∀ {kvs : List (Key × V)} {ps : List (PyData × PyData)} {vs : List (Key × Value)} {es : List DictEntry}, FlKv kvs ps → KV kvs vs → Pairs (mixKind P w) es vs →
    ReadsAll h (es.map (·.key)) (ps.map (·.1)) [] ∧ ReadsAll h (es.map (·.val)) (ps.map (·.2)) []
  | _, _, _, _, .nil, .nil, .nil => ⟨.nil, .nil⟩
  | _, _, _, _, .cons f r, .cons e r2, .cons k1 k2 r3 => by
    obtain ⟨h1, h2⟩ := kv_reads (h := h) r r2 r3
    refine ⟨?_, ?_⟩
    · exact ReadsAll.cons (as := []) (bs := []) (key_reads (k := _) (by have e1 := e.1; simp only at e1; show keyIs _ _ = true; rw [e1]; exact k1)) h1
    · refine ReadsAll.cons (as := []) (bs := []) (f.reads ?_) h2
      show RelV _ (DictEntry.val _)
      rw [k2]
      exact e.2
mutual
theorem Dq.reads (I : Inv X pins σ H s) : ∀ (d : PyData) (v : V) (u : Value), Dq X.K H v d → RelV v u → ∃ as, Reads s.heap u d as ∧ sysModules ∉ as
  | .none, _, _, h, r => by
    cases h with
    | fl f => exact ⟨_, f.reads r, by simp⟩
  | .bool b, _, _, h, r => by
    cases h with
    | fl f => exact ⟨_, f.reads r, by simp⟩
  | .int i, _, _, h, r => by
    cases h with
    | fl f => exact ⟨_, f.reads r, by simp⟩
  | .str x, _, _, h, r => by
    cases h with
    | fl f => exact ⟨_, f.reads r, by simp⟩
  | .list ds, _, _, h, r => by
    cases h with
    | fl f => cases f
  | .tuple ds, _, _, h, r => by
    cases h with
    | fl f => cases f
    | tup hs ha =>
      cases r
      obtain ⟨its, rv, ⟨o, ho, hc, n, hd⟩, _⟩ := I.tuple hs
      obtain ⟨as, hr, hn⟩ := Dq.readsAll I ds _ its ha rv
      exact ⟨_, Reads.tuple ho hc hd hr, hn⟩
  | .dict ps, _, _, h, r => by
    cases h with
    | fl f => cases f
    | dic hs ha =>
      cases r
      obtain ⟨_, hsys, vs, kv, o, es, ep, ho, hx, hdt, _, hp, _⟩ := dk_rd I.hok hs
      obtain ⟨h1, h2⟩ := kv_reads (h := s.heap) ha kv hp
      refine ⟨_, Reads.dict ho hx.1 hdt h1 h2, ?_⟩
      intro hm
      simp at hm
      rw [← hm] at hsys
      simp at hsys
theorem Dq.readsAll (I : Inv X pins σ H s) : ∀ (ds : List PyData) (vs : List V) (us : List Value), DqAll X.K H vs ds → Vals vs us → ∃ as, ReadsAll s.heap us ds as ∧ sysModules ∉ as
  | [], _, _, h, r => by
    cases h
    cases r
    exact ⟨_, ReadsAll.nil, by simp⟩
  | d :: ds, _, _, h, r => by
    cases h with
    | cons h1 h2 =>
      cases r with
      | cons r1 r2 =>
        obtain ⟨as, q1, n1⟩ := Dq.reads I d _ _ h1 r1
        obtain ⟨bs, q2, n2⟩ := Dq.readsAll I ds _ _ h2 r2
        exact ⟨_, ReadsAll.cons q1 q2, fun h => (List.mem_append.mp h).elim n1 n2⟩
end
end
/-- what repr shows -/
def Dz (K : PySem.W.Frag) (H : Hp) (v : V) (p : PyData) : Prop := (Dp K H v p ∧ p.hasDict = false) ∨ Dq K H v p ∨ ∃ a xs ds, v = .ref a ∧ H a = some (.lst xs) ∧ DqAll K H xs ds ∧ p = .list ds
def rReprZ (K : PySem.W.Frag) : List V → Hp → VK → Prop := fun xs H Q => ∃ v p, xs = [v] ∧ Dz K H v p ∧ p.showable = true ∧ p.depth ≤ 60 ∧ p.shown.length ≤ sizeLine ∧ Q (.str p.shown) H
theorem call_reprZ {X : Cx} (hg : X.A.guards = some []) (hu : X.A.units + 65 < cLine) : CallR X (.builtin "repr") (rReprZ X.K) := by
  intro pins s σ H xs us Q I r h
  obtain ⟨v, p, rfl, hz, hs, hdp, hl, q⟩ := h
  obtain ⟨u, rfl, ru⟩ := vals1 r
  have big : ∀ {a as}, Reads s.heap (.ref a) p as → (p.hasDict = true → sysModules ∉ as) → wpAny (model X.prog X.w) X.A (call (.builtin "repr") [.ref a]) (fun v1 s1 => ∃ v H1, Inv X pins σ H1 s1 ∧ RelV v v1 ∧ Q v H1) X.xe s := by
    intro a as rd hsm
    exact repr_of_reads' rd hs hsm hg (by omega) (fun b o e => e) (fun h' t tk hk => ⟨.str _, H, I.kept (t' := tk) fun b o e => hk b o e, ⟨t, rfl⟩, q⟩) hl
  have flat : Fl v p → wpAny (model X.prog X.w) X.A (call (.builtin "repr") [u]) (fun v1 s1 => ∃ v H1, Inv X pins σ H1 s1 ∧ RelV v v1 ∧ Q v H1) X.xe s := by
    intro f
    cases f with
    | non =>
      cases ru
      exact PySem.P.repr_of_none ⟨.str _, H, I.tok _, ⟨_, by simp only [PyData.shown]; rfl⟩, q⟩
    | bl b =>
      cases ru
      exact PySem.P.repr_of_bool ⟨.str _, H, I.tok _, ⟨_, by simp only [PyData.shown]; cases b <;> rfl⟩, q⟩
    | int i =>
      obtain ⟨t, rfl⟩ := ru
      exact PySem.P.repr_of_int (by simpa [PyData.showable] using hs) ⟨.str _, H, I.tok _, ⟨s.toks, by simp only [PyData.shown]⟩, q⟩
    | str x =>
      obtain ⟨t, rfl⟩ := ru
      exact PySem.P.repr_of_str ⟨.str _, H, I.tok _, ⟨s.toks, by simp only [PyData.shown]⟩, q⟩ (by simpa only [PyData.shown] using hl)
  rcases hz with ⟨hd, hn⟩ | hd | ⟨a, xs, ds, rfl, ha, hall, rfl⟩
  · obtain ⟨as, rd⟩ := Dp.reads I p v u hd ru
    cases hd with
    | non => exact flat .non
    | bl b => exact flat (.bl b)
    | int i => exact flat (.int i)
    | str x => exact flat (.str x)
    | lst _ _ =>
      cases (show u = Value.ref _ from ru)
      exact big rd fun e => by rw [hn] at e; cases e
    | tup _ _ =>
      cases (show u = Value.ref _ from ru)
      exact big rd fun e => by rw [hn] at e; cases e
  · obtain ⟨as, rd, no⟩ := Dq.reads I p v u hd ru
    cases hd with
    | fl f => exact flat f
    | tup _ _ =>
      cases (show u = Value.ref _ from ru)
      exact big rd fun _ => no
    | dic _ _ =>
      cases (show u = Value.ref _ from ru)
      exact big rd fun _ => no
  · cases (show u = Value.ref a from ru)
    obtain ⟨its, rv, ⟨o, n, ho, hc, _, hd⟩, _⟩ := I.list (.inl (.inl ha))
    obtain ⟨as, hr, no⟩ := Dq.readsAll I ds xs its hall rv
    have hz' : (listText (PyData.shownAll ds)).length ≤ sizeLine := by simpa only [PyData.shown] using hl
    obtain ⟨bs, hb, hk⟩ := ReprAllK.of_readsAll (prog := X.prog) (w := X.w) hr (by simpa [PyData.showable] using hs) (fun _ => no) (fun t ht => Nat.le_trans (listText_mem_le ht) hz')
    have hna : a ∉ bs := not_mem_of_deeper (.list ho hc hd hr) (by simp only [PyData.depth]; omega) hb
    have hQ : ∀ h' t tk, (∀ b o, s.heap.get? b = some o → h'.get? b = some o) → ∃ v H1, Inv X pins σ H1 { s with heap := h', toks := tk } ∧ RelV v (.str (PyData.list ds).shown t) ∧ Q v H1 :=
      fun h' t tk hk => ⟨.str _, H, I.kept (t' := tk) fun b o e => hk b o e, ⟨t, rfl⟩, q⟩
    simp only [PyData.shown] at hQ
    simp only [PyData.depth] at hdp
    refine call_repr_slot (T := "list") (idr := "list.__repr__") (by omega) ⟨o, ho, hc⟩ PySem.F.slot_list_repr.toG ?_
    cases its with
    | nil =>
      cases hr
      simp only [PyData.shownAll, listText_nil] at hQ
      exact call_list_repr_empty ⟨o, ho, hc⟩ ho hd ⟨_, _, rfl, hQ s.heap _ _ fun _ _ e => e⟩
    | cons x l =>
      exact call_list_reprK (h₀ := s.heap) ho hc hd hna (by simpa using hk.length_eq) (fun i y e => hk.item i y (by simpa using e)) hg (fun b _ => Clear.nil b) (by show X.A.units + 1 + _ < cLine; omega) (fun b o e => e) (fun h' u tk hk' => ⟨_, _, rfl, hQ h' u tk hk'⟩) hz'
/-- what a def promises where it is called and nothing is shown -/
structure FnG (P : Program) (w : World) (K : PySem.W.Frag) (mg : Str → Option Value) (base : Heap) (CX : CXT) (k : Nat) (f : Addr) (fd : FuncData) (ps : List Str) (sp : Sp) : Prop where
  len : ∀ vs H Q E, sp vs H Q E → vs.length = ps.length
  run : ∀ (A : Around) (outer : List Env) (s : Shared) (H : Hp) (args : Args) (us : List Value) (vs : List V) (Q : VK) (E : XK), A.guards = some [] → Room k A → Env0 P w K mg base A outer s H → BindsTo s fd args (ps.zip us) → Vals vs us → sp vs H Q E →
    codeAny (model P w) A (.call (.ref f) args) (CR CX outer P w H s Q E) s
theorem FnG.imp {P : Program} {w : World} {K : PySem.W.Frag} {mg : Str → Option Value} {base : Heap} {CX : CXT} {k : Nat} {f : Addr} {fd : FuncData} {ps : List Str} {sp sp' : Sp} (F : FnG P w K mg base CX k f fd ps sp)
    (h : ∀ vs H Q E, sp' vs H Q E → sp vs H Q E) : FnG P w K mg base CX k f fd ps sp' :=
  ⟨fun vs H Q E q => F.len vs H Q E (h _ _ _ _ q), fun A outer s H args us vs Q E hg hr e b r q => F.run A outer s H args us vs Q E hg hr e b r (h _ _ _ _ q)⟩
theorem FnG.runC {P : Program} {w : World} {K : PySem.W.Frag} {mg : Str → Option Value} {base : Heap} {CX : CXT} {k : Nat} {f : Addr} {fd : FuncData} {ps : List Str} {sp : Sp} (F : FnG P w K mg base CX k f fd ps sp) (hr : Room k callerA) : RunC P w K mg base CX f fd ps sp :=
  ⟨fun outer s H args us vs Q E e b r q => F.run callerA outer s H args us vs Q E rfl hr e b r q⟩
theorem fnG_of {P : Program} {w : World} {K : PySem.W.Frag} {mg : Str → Option Value} {base : Heap} {CX : CXT} {k : Nat} {f : Addr} {fd : FuncData} {x qn : Str} {st : Stmt} {N ps : List Str} {sp : Sp} (F : Fun K x qn st f fd) (S : FnScope N ps (defScope st))
    (hlen : ∀ vs H Q E, sp vs H Q E → vs.length = ps.length)
    (body : ∀ (cdv : Value) (A : Around) (outer : List Env) (s : Shared) (H : Hp) (vs : List V) (Q : VK) (E : XK), A.guards = some [] → Room k (A.deeper (envOfC qn (defScope st) s.heap.objs.size f cdv)) → sp vs H Q E →
      ∃ t, PSs (cxOf CX P w K mg base N qn (defScope st) f cdv A outer s H E) (defBody st) t ∧ t { nx := fun _ H' => Q .non H', rt := Q } (start N vs) H) : FnG P w K mg base CX (k + 1) f fd ps sp := by
  obtain ⟨oc, od, kV, doc, pm, an, cdv, ct, osl, rfl, lk, hcd⟩ := F.ex
  refine ⟨hlen, ?_⟩
  intro A outer s H args us vs Q E hg hroom e0 hbind hvals hsp
  obtain ⟨t, ht, hread⟩ := body cdv A outer s H vs Q E hg (hroom.deeper _) hsp
  have inK : K.In s.heap := e0.mod.kin.keeps fun b o e => (e0.bs b o e).1
  have noLim : s.heap.NoLimit := e0.mod.nolimit.keeps fun b o e => (e0.bs b o e).1
  refine codeAny_call_function hroom.depth (inK _ _ lk) rfl S.co S.gen rfl (PySem.W.codeRec_of inK hcd) (hbind _ _ _ _ ?_)
  refine wpAny_newFunctionEnv_cells S.kind (fun p hp => ?_) fun env he s1 x => ?_
  · rcases S.par p.1 (List.of_mem_zip (a := p.1) (b := p.2) hp).1 with q | q
    · exact Or.inl q
    · exact Or.inr ⟨q, PySem.W.cellsFrom_some _ _ _ (Or.inl q)⟩
  · subst he
    refine ⟨noLim.keeps x.toInCall.keep, codeAny_func ?_⟩
    have J := inv_start (CX := CX) (E := E) S hroom.hd e0 (hlen _ _ _ _ hsp) hvals x
    refine wpAny_mono (ht.run [] s1 (start N vs) H _ J hread) (fun fl s' z => ?_) fun _ _ z => z
    cases fl with
    | next => obtain ⟨_, H', J', q⟩ := z; exact ⟨.non, H', J'.os, J'.bare, J'.base, J'.hok, rfl, q⟩
    | ret u => obtain ⟨v, _, H', J', rv, q⟩ := z; exact ⟨v, H', J'.os, J'.bare, J'.base, J'.hok, rv, q⟩
    | brk => obtain ⟨_, _, _, q⟩ := z; exact q.elim
    | cont => obtain ⟨_, _, _, q⟩ := z; exact q.elim
/-- walk_ofE for such a law -/
theorem walk_ofG {l : PySem.W.OpenLaw} {n k : Nat} {q : Program} {loose : List Str} {XP : (Str → Option Value) → Heap → Prop} {YP : World → Heap → Prop} {d : DefRec} {CX : CXT} {x : Str}
    (hn : l.most = some n) (hn2 : n ≤ sizeLine) (hdf : d.params.defaults = []) (hr : Room k callerA)
    (F : ∀ (w : World) (mg : Str → Option Value) (fa : Addr) (h : Heap), YP w h → h.Ns mainGlobals mg → mg d.name = some (.ref fa) →
      ∃ (K : PySem.W.Frag) (fd : FuncData) (sp : Sp), K.In h ∧ (∀ (s : Shared) (u : Value), BindsTo s fd ⟨[u], []⟩ [(x, u)]) ∧
        (∀ (H : Hp) (a : Addr) (ns : List Int), ns.length ≤ n → Only H → SqL K H a (ns.map V.int) → sp [.ref a] H (fun v _ => v = .bl true) fun _ _ _ => False) ∧
        ∀ base : Heap, K.In base → base.Ns mainGlobals mg → FnG l.prog w K mg base CX k fa fd [x] sp)
    (hCX : ∀ (H : Hp) (s : Shared) (e : Value) (s' : Shared), CX [] H s (fun _ _ _ => False) e s' → False) :
    PySem.W.WalkO q loose XP YP l.row.toRowW d [] (fun f vs => PySem.call f vs) := by
  refine Att.attach_call hn hdf ?_
  intro w s₀ s₁ mg mb fa o pm cd doc a vs ns G Y _ _ _ hm at_a hInts len noGen
  obtain ⟨K, fd, sp, KX, hb, hsp, hF⟩ := F w mg fa _ Y G.T.g hm
  exact top_call KX G.T.g G.T.b G.T.builtins G.T.nolimit noGen at_a hInts (Nat.le_trans len hn2) (fun base k1 k2 => (hF base k1 k2).runC hr) hb (fun H h1 h2 => hsp H a ns len h1 h2) fun H e s' => hCX H s₁ e s'
end L2
namespace SM
open PySem L2 DL
section
variable {P : Program} {w : World} {K : PySem.W.Frag} {mg : Str → Option Value} {base : Heap} {ca : CaT} {x qn : Str} {st : Stmt} {fa : Addr} {fd : FuncData} {N ps : List Str} {k : Nat}
theorem Fn.ofG {n : Nat} {b : S} (F : Fun K x qn st fa fd) (S : FnScope N ps (defScope st)) (hn : ps.length = n)
    (body : ∀ (cdv : Value) (A : Around) (outer : List PySem.Env) (s : Shared) (H : Hp) (E : XK), A.guards = some [] → Room k (A.deeper (PyProof.Rows.envOfC qn (defScope st) s.heap.objs.size fa cdv)) →
      ∃ t, PSs (cxOf (L2.CX P w) P w K mg base N qn (defScope st) fa cdv A outer s H E) (defBody st) t ∧ SimS K ca (fun cls d _ H => E cls d H) t b) : FnG P w K mg base (L2.CX P w) (k + 1) fa fd ps (SpF K ca (mkFn n N.length b)) :=
  fnG_of F S (fun vs H Q E h => by rw [hn]; exact spF_len h) fun cdv A outer s H vs Q E hg hr h => by
    obtain ⟨t, h1, h2⟩ := body cdv A outer s H E hg hr
    exact ⟨t, h1, run_SpF h h2⟩
theorem Fn.ofG0 {n : Nat} {b : S} (F : Fun K x qn st fa fd) (S : FnScope N ps (defScope st)) (hn : ps.length = n)
    (body : ∀ (cdv : Value) (A : Around) (outer : List PySem.Env) (s : Shared) (H : Hp) (E : XK), A.guards = some [] → Room k (A.deeper (PyProof.Rows.envOfC qn (defScope st) s.heap.objs.size fa cdv)) →
      ∃ t, PSs (cxOf CX0 P w K mg base N qn (defScope st) fa cdv A outer s H E).nox (defBody st) t ∧ SimS K ca (fun cls d _ H => E cls d H) t b) : FnG P w K mg base CX0 (k + 1) fa fd ps (SpF K ca (mkFn n N.length b)) :=
  fnG_of F S (fun vs H Q E h => by rw [hn]; exact spF_len h) fun cdv A outer s H vs Q E hg hr h => by
    obtain ⟨t, h1, h2⟩ := body cdv A outer s H E hg hr
    exact ⟨t, h1.nox, run_SpF h h2⟩
end
/-! ### what repr shows, as plain data -/
def fl1 : D → Option PyData
  | .non => some .none
  | .bl b => some (.bool b)
  | .int i => some (.int i)
  | .str x => some (.str x)
  | _ => none
def kyP : D → PyData
  | .int i => .int i
  | .str x => .str x
  | _ => .none
def flKv : List (D × D) → Option (List (PyData × PyData))
  | [] => some []
  | (k, v) :: r => match fl1 v, flKv r with
    | some p, some q => some ((kyP k, p) :: q)
    | _, _ => none
def pyQ (A : Hs) : Nat → D → Option PyData
  | n + 1, .tup l => (allSome (l.map (pyQ A n))).map .tuple
  | n + 1, .wt l => (allSome (l.map (pyQ A n))).map .tuple
  | _ + 1, .ref i => match A[i]? with
    | some (.dic false _ l) => (flKv l).map .dict
    | _ => none
  | _, d => fl1 d
def pyR (A : Hs) (d : D) : Option PyData := match pyA A 40 d with
  | some p => if p.hasDict then none else some p
  | none => match pyQ A 40 d with
    | some p => some p
    | none => match d with
      | .ref i => match A[i]? with
        | some (.lst l) => (allSome (l.map (pyQ A 40))).map .list
        | _ => none
      | _ => none
def oRepr (d : D) (A : Hs) : RE D := match pyR A d with
  | some p => if p.showable = true ∧ p.depth ≤ 60 ∧ p.shown.length ≤ sizeLine then .ok (.str p.shown) A else .stuck
  | none => .stuck
section
variable {K : PySem.W.Frag} {ca : CaT} {F H : Hp} {m : List Addr} {A : Hs}
theorem fl_of : ∀ {v : V} {d : D} {p : PyData}, Rep K ca F m v d → fl1 d = some p → Fl v p
  | _, _, _, .non, h => by cases h; exact .non
  | _, _, _, .bl b, h => by cases h; exact .bl b
  | _, _, _, .int i, h => by cases h; exact .int i
  | _, _, _, .str x, h => by cases h; exact .str x
  | _, _, _, .ty _, h => by cases h
  | _, _, _, .tup _ _, h => by cases h
  | _, _, _, .wt _ _, h => by cases h
  | _, _, _, .scr _ _, h => by cases h
  | _, _, _, .ref _, h => by cases h
  | _, _, _, .nm _, h => by cases h
  | _, _, _, .exc _, h => by cases h
theorem flKv_of : ∀ {kvs : List (Key × V)} {l : List (D × D)} {ps : List (PyData × PyData)}, KvR K ca F m kD kvs l → flKv l = some ps → FlKv kvs ps
  | _, _, _, .nil, h => by cases h; exact .nil
  | _, _, _, .cons (k := k) (d := d) (s := s) r rs, h => by
    unfold flKv at h
    cases q1 : fl1 d with
    | none => simp [q1] at h
    | some p =>
      cases q2 : flKv s with
      | none => simp [q1, q2] at h
      | some qs =>
        simp only [q1, q2] at h
        cases h
        have e : kyP (kD k) = kyPy k := by cases k <;> rfl
        rw [e]
        exact .cons (fl_of r q1) (flKv_of rs q2)
theorem dq_all {n : Nat} (ih : ∀ {v : V} {d : D} {p : PyData}, Rep K ca F m v d → pyQ A n d = some p → Dq K H v p) :
    ∀ {vs : List V} {l : List D} {ps : List PyData}, RepL K ca F m vs l → allSome (l.map (pyQ A n)) = some ps → DqAll K H vs ps
  | _, _, _, .nil, h => by cases h; exact .nil
  | _, _, _, .cons (d := d) (ds := ds) r rs, h => by
    rw [List.map_cons] at h
    cases q : pyQ A n d with
    | none => rw [q] at h; cases h
    | some p =>
      rw [q] at h
      unfold allSome at h
      cases q2 : allSome (ds.map (pyQ A n)) with
      | none => rw [q2] at h; cases h
      | some ps =>
        rw [q2] at h
        cases h
        exact .cons (ih r q) (dq_all ih rs q2)
theorem dq_of (R : Rl K ca F m A H) : ∀ {n : Nat} {v : V} {d : D} {p : PyData}, Rep K ca F m v d → pyQ A n d = some p → Dq K H v p := by
  intro n
  induction n with
  | zero =>
    intro v d p r h
    unfold pyQ at h
    exact .fl (fl_of r h)
  | succ n ih =>
    intro v d p r h
    cases r with
    | tup s rs =>
      unfold pyQ at h
      cases q : allSome (List.map (pyQ A n) _) with
      | none => rw [q] at h; cases h
      | some ps =>
        rw [q] at h; cases h
        exact .tup (.inl (.inl (R.fh _ _ s))) (dq_all ih rs q)
    | wt s rs =>
      unfold pyQ at h
      cases q : allSome (List.map (pyQ A n) _) with
      | none => rw [q] at h; cases h
      | some ps =>
        rw [q] at h; cases h
        exact .tup (R.fh.t s) (dq_all ih rs q)
    | ref hm =>
      rename_i a i
      unfold pyQ at h
      cases q0 : A[i]? with
      | none => simp [q0] at h
      | some o =>
        cases o with
        | dic b lk l =>
          cases b with
          | true => simp [q0] at h
          | false =>
            simp only [q0] at h
            cases q : flKv l with
            | none => rw [q] at h; cases h
            | some ps =>
              rw [q] at h; cases h
              obtain ⟨a', e, ha, kvs, h1, h2⟩ := R.at (v := .ref a) q0 (.ref hm)
              cases e
              refine .dic ?_ (flKv_of h2 q)
              cases lk with
              | false => exact .inl h1
              | true => exact .inr h1
        | lst _ => simp [q0] at h
        | obj _ _ => simp [q0] at h
        | nd _ => simp [q0] at h
    | non => unfold pyQ at h; exact .fl (fl_of (K := K) (ca := ca) (F := F) (m := m) .non h)
    | bl b => unfold pyQ at h; exact .fl (fl_of (K := K) (ca := ca) (F := F) (m := m) (.bl b) h)
    | int i => unfold pyQ at h; exact .fl (fl_of (K := K) (ca := ca) (F := F) (m := m) (.int i) h)
    | str x => unfold pyQ at h; exact .fl (fl_of (K := K) (ca := ca) (F := F) (m := m) (.str x) h)
    | ty x => unfold pyQ at h; exact .fl (fl_of (K := K) (ca := ca) (F := F) (m := m) (.ty x) h)
    | nm x => unfold pyQ at h; exact .fl (fl_of (K := K) (ca := ca) (F := F) (m := m) (.nm x) h)
    | scr s rs => unfold pyQ at h; exact .fl (fl_of (K := K) (ca := ca) (F := F) (m := m) (.scr s rs) h)
    | exc e => unfold pyQ at h; exact .fl (fl_of (K := K) (ca := ca) (F := F) (m := m) (.exc e) h)
theorem dz_of {v : V} {d : D} {p : PyData} (R : Rl K ca F m A H) (r : Rep K ca F m v d) (h : pyR A d = some p) : Dz K H v p := by
  unfold pyR at h
  split at h
  · rename_i p1 q1
    split at h
    · cases h
    · rename_i hn
      cases h
      exact .inl ⟨(dp_of R r q1).1, by simpa using hn⟩
  · split at h
    · rename_i p1 q1
      cases h
      exact .inr (.inl (dq_of R r q1))
    · split at h
      · rename_i i
        split at h
        · rename_i l q0
          cases q : allSome (List.map (pyQ A 40) l) with
          | none => rw [q] at h; cases h
          | some ps =>
            rw [q] at h; cases h
            obtain ⟨a, e, ha, vs, h1, h2⟩ := R.at q0 r
            exact .inr (.inr ⟨a, vs, ps, e, h1, dq_all (fun r => dq_of R r) h2 q, rfl⟩)
        · cases h
      · cases h
theorem cs_repr : CbS K ca (rReprZ K) (c1 oRepr) := cs_1 fun F m A H x dx W σ Q R rx p => by
  unfold oRepr at p
  split at p
  · rename_i pd q1
    split at p
    · rename_i hc
      exact ⟨x, pd, rfl, dz_of R rx q1, hc.1, hc.2.1, hc.2.2, po_ok R (.str _) p⟩
    · exact p.elim
  · exact p.elim
end
end SM

namespace Hx
open PySem PySem.Spec PyProof.Rows L2 SM
section
variable {w : World} {K : Hk.Fk}
theorem g_NoBits (c : Hk.SaysK exs fn ts w K) : PySem.W.nsIn K mainGlobals "NoBits" = some (some (.ref (He.ga K "NoBits"))) := c.is 0 (f := q0)
theorem g_NoBook (c : Hk.SaysK exs fn ts w K) : PySem.W.nsIn K mainGlobals "NoBook" = some (some (.ref (He.ga K "NoBook"))) := c.is 1 (f := q1)
theorem g_NoCode (c : Hk.SaysK exs fn ts w K) : PySem.W.nsIn K mainGlobals "NoCode" = some (some (.ref (He.ga K "NoCode"))) := c.is 2 (f := q2)
theorem g_NoData (c : Hk.SaysK exs fn ts w K) : PySem.W.nsIn K mainGlobals "NoData" = some (some (.ref (He.ga K "NoData"))) := c.is 3 (f := q3)
theorem g_NoDeed (c : Hk.SaysK exs fn ts w K) : PySem.W.nsIn K mainGlobals "NoDeed" = some (some (.ref (He.ga K "NoDeed"))) := c.is 4 (f := q4)
theorem g_NoNumber (c : Hk.SaysK exs fn ts w K) : PySem.W.nsIn K mainGlobals "NoNumber" = some (some (.ref (He.ga K "NoNumber"))) := c.is 5 (f := q5)
theorem g_NoPacket (c : Hk.SaysK exs fn ts w K) : PySem.W.nsIn K mainGlobals "NoPacket" = some (some (.ref (He.ga K "NoPacket"))) := c.is 6 (f := q6)
theorem g_NoPlace (c : Hk.SaysK exs fn ts w K) : PySem.W.nsIn K mainGlobals "NoPlace" = some (some (.ref (He.ga K "NoPlace"))) := c.is 7 (f := q7)
theorem g_NoPort (c : Hk.SaysK exs fn ts w K) : PySem.W.nsIn K mainGlobals "NoPort" = some (some (.ref (He.ga K "NoPort"))) := c.is 8 (f := q8)
theorem g_NoSegment (c : Hk.SaysK exs fn ts w K) : PySem.W.nsIn K mainGlobals "NoSegment" = some (some (.ref (He.ga K "NoSegment"))) := c.is 9 (f := q9)
theorem g_NoSize (c : Hk.SaysK exs fn ts w K) : PySem.W.nsIn K mainGlobals "NoSize" = some (some (.ref (He.ga K "NoSize"))) := c.is 10 (f := q10)
theorem g_NoTable (c : Hk.SaysK exs fn ts w K) : PySem.W.nsIn K mainGlobals "NoTable" = some (some (.ref (He.ga K "NoTable"))) := c.is 11 (f := q11)
theorem g_NoTalk (c : Hk.SaysK exs fn ts w K) : PySem.W.nsIn K mainGlobals "NoTalk" = some (some (.ref (He.ga K "NoTalk"))) := c.is 12 (f := q12)
theorem g_NoText (c : Hk.SaysK exs fn ts w K) : PySem.W.nsIn K mainGlobals "NoText" = some (some (.ref (He.ga K "NoText"))) := c.is 13 (f := q13)
theorem g_NoTick (c : Hk.SaysK exs fn ts w K) : PySem.W.nsIn K mainGlobals "NoTick" = some (some (.ref (He.ga K "NoTick"))) := c.is 14 (f := q14)
theorem g_STANDS (c : Hk.SaysK exs fn ts w K) : PySem.W.nsIn K mainGlobals "STANDS" = some (some (.ref (He.ga K "STANDS"))) := c.is 15 (f := q15)
theorem g_WireError (c : Hk.SaysK exs fn ts w K) : PySem.W.nsIn K mainGlobals "WireError" = some (some (.ref (He.ga K "WireError"))) := c.is 16 (f := q16)
theorem z_ValueError (c : Hk.SaysK exs fn ts w K) : PySem.W.nsIn K mainGlobals "ValueError" = some none := c.is 17 (f := q17)
theorem z_all (c : Hk.SaysK exs fn ts w K) : PySem.W.nsIn K mainGlobals "all" = some none := c.is 18 (f := q18)
theorem z_bool (c : Hk.SaysK exs fn ts w K) : PySem.W.nsIn K mainGlobals "bool" = some none := c.is 19 (f := q19)
theorem z_dict (c : Hk.SaysK exs fn ts w K) : PySem.W.nsIn K mainGlobals "dict" = some none := c.is 20 (f := q20)
theorem z_int (c : Hk.SaysK exs fn ts w K) : PySem.W.nsIn K mainGlobals "int" = some none := c.is 21 (f := q21)
theorem z_isinstance (c : Hk.SaysK exs fn ts w K) : PySem.W.nsIn K mainGlobals "isinstance" = some none := c.is 22 (f := q22)
theorem z_len (c : Hk.SaysK exs fn ts w K) : PySem.W.nsIn K mainGlobals "len" = some none := c.is 23 (f := q23)
theorem z_list (c : Hk.SaysK exs fn ts w K) : PySem.W.nsIn K mainGlobals "list" = some none := c.is 24 (f := q24)
theorem z_max (c : Hk.SaysK exs fn ts w K) : PySem.W.nsIn K mainGlobals "max" = some none := c.is 25 (f := q25)
theorem z_min (c : Hk.SaysK exs fn ts w K) : PySem.W.nsIn K mainGlobals "min" = some none := c.is 26 (f := q26)
theorem z_range (c : Hk.SaysK exs fn ts w K) : PySem.W.nsIn K mainGlobals "range" = some none := c.is 27 (f := q27)
theorem z_repr (c : Hk.SaysK exs fn ts w K) : PySem.W.nsIn K mainGlobals "repr" = some none := c.is 28 (f := q28)
theorem z_sorted (c : Hk.SaysK exs fn ts w K) : PySem.W.nsIn K mainGlobals "sorted" = some none := c.is 29 (f := q29)
theorem z_str (c : Hk.SaysK exs fn ts w K) : PySem.W.nsIn K mainGlobals "str" = some none := c.is 30 (f := q30)
theorem z_tuple (c : Hk.SaysK exs fn ts w K) : PySem.W.nsIn K mainGlobals "tuple" = some none := c.is 31 (f := q31)
theorem y_BYTE (c : Hk.SaysK exs fn ts w K) : Hk.intB K "BYTE" 255 = true := c.fact 32 (f := q32)
theorem y_MOST_BYTE (c : Hk.SaysK exs fn ts w K) : Hk.intB K "MOST_BYTE" 255 = true := c.fact 33 (f := q33)
theorem y_MOST_DATA (c : Hk.SaysK exs fn ts w K) : Hk.intB K "MOST_DATA" 1000 = true := c.fact 34 (f := q34)
theorem y_SIZE (c : Hk.SaysK exs fn ts w K) : Hk.intB K "SIZE" 4294967296 = true := c.fact 35 (f := q35)
theorem e_NoBook (c : Hk.SaysK exs fn ts w K) : PySem.W.excIn K (He.ga K "NoBook") [.type "ValueError", .type "Exception", .type "BaseException", .type "object"] "ValueError.__new__" = true := c.is 36 (f := q36)
theorem k_NoBook (c : Hk.SaysK exs fn ts w K) : PySem.W.keepIn K (.ref (He.ga K "NoBook")) = true := c.is 37 (f := q37)
theorem b_NoBook (c : Hk.SaysK exs fn ts w K) : PySem.W.subIn K (.ref (He.ga K "NoBook")) (.type "BaseException") = some true := c.is 38 (f := q38)
theorem t_NoBook (c : Hk.SaysK exs fn ts w K) : PySem.W.typeIn K (.ref (He.ga K "NoBook")) = some (.type "type") := c.is 39 (f := q39)
theorem mm_WireError_NoBook (c : Hk.SaysK exs fn ts w K) : PySem.W.exmOne K (.ref (He.ga K "NoBook")) (.ref (He.ga K "WireError")) = some true := c.is 40 (f := q40)
theorem x_NoBook__0 (c : Hk.SaysK exs fn ts w K) : PySem.W.findIn K (.ref (He.ga K "NoBook")) "__getattribute__" = some (some (.builtin "BaseException.__getattribute__")) := c.is 41 (f := q41)
theorem x_NoBook__1 (c : Hk.SaysK exs fn ts w K) : PySem.W.findIn K (.ref (He.ga K "NoBook")) "__getattr__" = some none := c.is 42 (f := q42)
theorem x_NoBook__2 (c : Hk.SaysK exs fn ts w K) : PySem.W.subIn K (.ref (He.ga K "NoBook")) (.type "BaseException") = some true := c.is 43 (f := q43)
theorem x_NoBook__3 (c : Hk.SaysK exs fn ts w K) : PySem.W.hasDictIn K (He.ga K "NoBook") = true := c.is 44 (f := q44)
theorem x_NoBook__4 (c : Hk.SaysK exs fn ts w K) : PySem.W.findIn K (.ref (He.ga K "NoBook")) "__class__" = some (some (.builtin "object.__class__")) := c.is 45 (f := q45)
theorem x_NoBook__5 (c : Hk.SaysK exs fn ts w K) : PySem.W.specialIn K (.builtin "object.__class__") "__get__" = some (some (.builtin "getset_descriptor.__get__")) := c.is 46 (f := q46)
theorem x_NoBook__6 (c : Hk.SaysK exs fn ts w K) : PySem.W.takesIn K (.builtin "object.__class__") = some true := c.is 47 (f := q47)
theorem x_NoBook__7 (c : Hk.SaysK exs fn ts w K) : PySem.W.mroIn K (He.ga K "NoBook") (.type "object") = some true := c.is 48 (f := q48)
theorem x_NoBook (c : Hk.SaysK exs fn ts w K) : ExcC K (He.ga K "NoBook") := ⟨x_NoBook__0 c, x_NoBook__1 c, x_NoBook__2 c, x_NoBook__3 c, x_NoBook__4 c, x_NoBook__5 c, x_NoBook__6 c, x_NoBook__7 c⟩
theorem i_NoBook_NoBits (c : Hk.SaysK exs fn ts w K) : PySem.W.kitOne K (.ref (He.ga K "NoBook")) (.ref (He.ga K "NoBits")) = some false := c.is 49 (f := q49)
theorem i_NoBook_NoBook (c : Hk.SaysK exs fn ts w K) : PySem.W.kitOne K (.ref (He.ga K "NoBook")) (.ref (He.ga K "NoBook")) = some true := c.is 50 (f := q50)
theorem i_NoBook_NoCode (c : Hk.SaysK exs fn ts w K) : PySem.W.kitOne K (.ref (He.ga K "NoBook")) (.ref (He.ga K "NoCode")) = some false := c.is 51 (f := q51)
theorem i_NoBook_NoData (c : Hk.SaysK exs fn ts w K) : PySem.W.kitOne K (.ref (He.ga K "NoBook")) (.ref (He.ga K "NoData")) = some false := c.is 52 (f := q52)
theorem i_NoBook_NoDeed (c : Hk.SaysK exs fn ts w K) : PySem.W.kitOne K (.ref (He.ga K "NoBook")) (.ref (He.ga K "NoDeed")) = some false := c.is 53 (f := q53)
theorem i_NoBook_NoNumber (c : Hk.SaysK exs fn ts w K) : PySem.W.kitOne K (.ref (He.ga K "NoBook")) (.ref (He.ga K "NoNumber")) = some false := c.is 54 (f := q54)
theorem i_NoBook_NoPacket (c : Hk.SaysK exs fn ts w K) : PySem.W.kitOne K (.ref (He.ga K "NoBook")) (.ref (He.ga K "NoPacket")) = some false := c.is 55 (f := q55)
theorem i_NoBook_NoPlace (c : Hk.SaysK exs fn ts w K) : PySem.W.kitOne K (.ref (He.ga K "NoBook")) (.ref (He.ga K "NoPlace")) = some false := c.is 56 (f := q56)
theorem i_NoBook_NoPort (c : Hk.SaysK exs fn ts w K) : PySem.W.kitOne K (.ref (He.ga K "NoBook")) (.ref (He.ga K "NoPort")) = some false := c.is 57 (f := q57)
theorem i_NoBook_NoSegment (c : Hk.SaysK exs fn ts w K) : PySem.W.kitOne K (.ref (He.ga K "NoBook")) (.ref (He.ga K "NoSegment")) = some false := c.is 58 (f := q58)
theorem i_NoBook_NoSize (c : Hk.SaysK exs fn ts w K) : PySem.W.kitOne K (.ref (He.ga K "NoBook")) (.ref (He.ga K "NoSize")) = some false := c.is 59 (f := q59)
theorem i_NoBook_NoTable (c : Hk.SaysK exs fn ts w K) : PySem.W.kitOne K (.ref (He.ga K "NoBook")) (.ref (He.ga K "NoTable")) = some false := c.is 60 (f := q60)
theorem i_NoBook_NoTalk (c : Hk.SaysK exs fn ts w K) : PySem.W.kitOne K (.ref (He.ga K "NoBook")) (.ref (He.ga K "NoTalk")) = some false := c.is 61 (f := q61)
theorem i_NoBook_NoText (c : Hk.SaysK exs fn ts w K) : PySem.W.kitOne K (.ref (He.ga K "NoBook")) (.ref (He.ga K "NoText")) = some false := c.is 62 (f := q62)
theorem i_NoBook_NoTick (c : Hk.SaysK exs fn ts w K) : PySem.W.kitOne K (.ref (He.ga K "NoBook")) (.ref (He.ga K "NoTick")) = some false := c.is 63 (f := q63)
theorem i_NoBook_WireError (c : Hk.SaysK exs fn ts w K) : PySem.W.kitOne K (.ref (He.ga K "NoBook")) (.ref (He.ga K "WireError")) = some true := c.is 64 (f := q64)
theorem i_NoBook_ValueError (c : Hk.SaysK exs fn ts w K) : PySem.W.kitOne K (.ref (He.ga K "NoBook")) (.type "ValueError") = some true := c.is 65 (f := q65)
theorem i_NoBook_bool (c : Hk.SaysK exs fn ts w K) : PySem.W.kitOne K (.ref (He.ga K "NoBook")) (.type "bool") = some false := c.is 66 (f := q66)
theorem i_NoBook_int (c : Hk.SaysK exs fn ts w K) : PySem.W.kitOne K (.ref (He.ga K "NoBook")) (.type "int") = some false := c.is 67 (f := q67)
theorem i_NoBook_list (c : Hk.SaysK exs fn ts w K) : PySem.W.kitOne K (.ref (He.ga K "NoBook")) (.type "list") = some false := c.is 68 (f := q68)
theorem i_NoBook_str (c : Hk.SaysK exs fn ts w K) : PySem.W.kitOne K (.ref (He.ga K "NoBook")) (.type "str") = some false := c.is 69 (f := q69)
theorem i_NoBook_tuple (c : Hk.SaysK exs fn ts w K) : PySem.W.kitOne K (.ref (He.ga K "NoBook")) (.type "tuple") = some false := c.is 70 (f := q70)
theorem kt_STANDS__0 (c : Hk.SaysK exs fn ts w K) : Hk.tplB K (He.ga K "STANDS") ([("calls" : Str), ("answers" : Str), ("open" : Str), ("ends" : Str), ("left" : Str), ("rests" : Str), ("closed" : Str), ("cut" : Str), ("gone" : Str)].map V.str) = true := c.fact 71 (f := q71)
theorem kt_STANDS (c : Hk.SaysK exs fn ts w K) : KTplS K (He.ga K "STANDS") [("calls" : Str), ("answers" : Str), ("open" : Str), ("ends" : Str), ("left" : Str), ("rests" : Str), ("closed" : Str), ("cut" : Str), ("gone" : Str)] := Hk.tplB_ok (kt_STANDS__0 c)
theorem a0 (c : Hk.SaysK exs fn ts w K) : PySem.W.nsIn K mainGlobals "_law_mixed" = some (some (.ref (He.ga K "_law_mixed"))) := c.is 72 (f := q72)
theorem F0 (c : Hk.SaysK exs fn ts w K) : ∃ fd, Fun K "_law_mixed" "_law_mixed" Kk.s_l_mixed (He.ga K "_law_mixed") fd := (c.def_ 0 (d := d0)).imp fun _ F => Hk.funOf F
theorem a1 (c : Hk.SaysK exs fn ts w K) : PySem.W.nsIn K mainGlobals "_law_draw" = some (some (.ref (He.ga K "_law_draw"))) := c.is 73 (f := q73)
theorem F1 (c : Hk.SaysK exs fn ts w K) : ∃ fd, Fun K "_law_draw" "_law_draw" Kk.s_l_draw (He.ga K "_law_draw") fd := (c.def_ 1 (d := d1)).imp fun _ F => Hk.funOf F
theorem a2 (c : Hk.SaysK exs fn ts w K) : PySem.W.nsIn K mainGlobals "_law_next" = some (some (.ref (He.ga K "_law_next"))) := c.is 74 (f := q74)
theorem F2 (c : Hk.SaysK exs fn ts w K) : ∃ fd, Fun K "_law_next" "_law_next" Kk.s_l_next (He.ga K "_law_next") fd := (c.def_ 2 (d := d2)).imp fun _ F => Hk.funOf F
theorem a3 (c : Hk.SaysK exs fn ts w K) : PySem.W.nsIn K mainGlobals "_law_pick" = some (some (.ref (He.ga K "_law_pick"))) := c.is 75 (f := q75)
theorem F3 (c : Hk.SaysK exs fn ts w K) : ∃ fd, Fun K "_law_pick" "_law_pick" Kk.s_l_pick (He.ga K "_law_pick") fd := (c.def_ 3 (d := d3)).imp fun _ F => Hk.funOf F
theorem a4 (c : Hk.SaysK exs fn ts w K) : PySem.W.nsIn K mainGlobals "_law_line" = some (some (.ref (He.ga K "_law_line"))) := c.is 76 (f := q76)
theorem F4 (c : Hk.SaysK exs fn ts w K) : ∃ fd, Fun K "_law_line" "_law_line" Kk.s_l_line (He.ga K "_law_line") fd := (c.def_ 4 (d := d4)).imp fun _ F => Hk.funOf F
theorem a5 (c : Hk.SaysK exs fn ts w K) : PySem.W.nsIn K mainGlobals "_law_line_bent" = some (some (.ref (He.ga K "_law_line_bent"))) := c.is 77 (f := q77)
theorem F5 (c : Hk.SaysK exs fn ts w K) : ∃ fd, Fun K "_law_line_bent" "_law_line_bent" Kk.s_l_line_bent (He.ga K "_law_line_bent") fd := (c.def_ 5 (d := d5)).imp fun _ F => Hk.funOf F
theorem a6 (c : Hk.SaysK exs fn ts w K) : PySem.W.nsIn K mainGlobals "_law_kinds_of" = some (some (.ref (He.ga K "_law_kinds_of"))) := c.is 78 (f := q78)
theorem F6 (c : Hk.SaysK exs fn ts w K) : ∃ fd, Fun K "_law_kinds_of" "_law_kinds_of" Kk.s_l_kinds_of (He.ga K "_law_kinds_of") fd := (c.def_ 6 (d := d6)).imp fun _ F => Hk.funOf F
theorem a7 (c : Hk.SaysK exs fn ts w K) : PySem.W.nsIn K mainGlobals "is_between" = some (some (.ref (He.ga K "is_between"))) := c.is 79 (f := q79)
theorem F7 (c : Hk.SaysK exs fn ts w K) : ∃ fd, Fun K "is_between" "is_between" Kk.s_is_between (He.ga K "is_between") fd := (c.def_ 7 (d := d7)).imp fun _ F => Hk.funOf F
theorem a8 (c : Hk.SaysK exs fn ts w K) : PySem.W.nsIn K mainGlobals "is_whole" = some (some (.ref (He.ga K "is_whole"))) := c.is 80 (f := q80)
theorem F8 (c : Hk.SaysK exs fn ts w K) : ∃ fd, Fun K "is_whole" "is_whole" Kk.s_is_whole (He.ga K "is_whole") fd := (c.def_ 8 (d := d8)).imp fun _ F => Hk.funOf F
theorem a9 (c : Hk.SaysK exs fn ts w K) : PySem.W.nsIn K mainGlobals "is_data" = some (some (.ref (He.ga K "is_data"))) := c.is 81 (f := q81)
theorem F9 (c : Hk.SaysK exs fn ts w K) : ∃ fd, Fun K "is_data" "is_data" Kk.s_is_data (He.ga K "is_data") fd := (c.def_ 9 (d := d9)).imp fun _ F => Hk.funOf F
theorem a10 (c : Hk.SaysK exs fn ts w K) : PySem.W.nsIn K mainGlobals "is_more" = some (some (.ref (He.ga K "is_more"))) := c.is 82 (f := q82)
theorem F10 (c : Hk.SaysK exs fn ts w K) : ∃ fd, Fun K "is_more" "is_more" Kk.s_is_more (He.ga K "is_more") fd := (c.def_ 10 (d := d10)).imp fun _ F => Hk.funOf F
theorem a11 (c : Hk.SaysK exs fn ts w K) : PySem.W.nsIn K mainGlobals "is_line" = some (some (.ref (He.ga K "is_line"))) := c.is 83 (f := q83)
theorem F11 (c : Hk.SaysK exs fn ts w K) : ∃ fd, Fun K "is_line" "is_line" Kk.s_is_line (He.ga K "is_line") fd := (c.def_ 11 (d := d11)).imp fun _ F => Hk.funOf F
theorem a12 (c : Hk.SaysK exs fn ts w K) : PySem.W.nsIn K mainGlobals "need_book" = some (some (.ref (He.ga K "need_book"))) := c.is 84 (f := q84)
theorem F12 (c : Hk.SaysK exs fn ts w K) : ∃ fd, Fun K "need_book" "need_book" Kk.s_need_book (He.ga K "need_book") fd := (c.def_ 12 (d := d12)).imp fun _ F => Hk.funOf F
theorem a13 (c : Hk.SaysK exs fn ts w K) : PySem.W.nsIn K mainGlobals "_law_refused" = some (some (.ref (He.ga K "_law_refused"))) := c.is 85 (f := q85)
theorem F13 (c : Hk.SaysK exs fn ts w K) : ∃ fd, Fun K "_law_refused" "_law_refused" Kk.s_l_refused (He.ga K "_law_refused") fd := (c.def_ 13 (d := d13)).imp fun _ F => Hk.funOf F
theorem a14 (c : Hk.SaysK exs fn ts w K) : PySem.W.nsIn K mainGlobals "law" = some (some (.ref (He.ga K "law"))) := c.is 86 (f := q86)
theorem F14 (c : Hk.SaysK exs fn ts w K) : ∃ fd, Fun K "law" "law" Kk.s_law (He.ga K "law") fd := (c.def_ 14 (d := d14)).imp fun _ F => Hk.funOf F
end
end Hx
namespace Kk
open PySem L2 SM
def cts_WireError : List String := ["NoBook"]
def os_ : List String := []
def xs_ : List String := ["NoBook"]
def tb_ : List (String × String × Bool) := [("NoBook", "NoBits", false), ("NoBook", "NoBook", true), ("NoBook", "NoCode", false), ("NoBook", "NoData", false), ("NoBook", "NoDeed", false), ("NoBook", "NoNumber", false), ("NoBook", "NoPacket", false), ("NoBook", "NoPlace", false), ("NoBook", "NoPort", false), ("NoBook", "NoSegment", false), ("NoBook", "NoSize", false), ("NoBook", "NoTable", false), ("NoBook", "NoTalk", false), ("NoBook", "NoText", false), ("NoBook", "NoTick", false), ("NoBook", "WireError", true), ("NoBook", "ValueError", true), ("NoBook", "bool", false), ("NoBook", "int", false), ("NoBook", "list", false), ("NoBook", "str", false), ("NoBook", "tuple", false)]
/- slots of _law_mixed: 0=_law_cell 1=_law_k 2=_law_mix -/
noncomputable def F_l_mixed : Fn := mkFn 2 3
  (sSeq (sSet 2 (eOp oMod (eOp oMul (eOp oAdd (eOp oAdd (eVar 0) (eOp oMul (eC (.int 7919)) (eVar 1))) (eC (.int 11))) (eC (.int 48271))) (eC (.int 2147483647)))) (sRet (eOp oMod (eOp oAdd (eOp oMul (eVar 2) (eVar 2)) (eOp oMul (eC (.int 40692)) (eVar 2))) (eC (.int 2147483399)))))
/- slots of _law_draw: 0=_law_script 1=_law_k 2=_law_count 3=_law_cell 4=_law_mixed_here -/
noncomputable def F_l_draw : Fn := mkFn 3 5
  (sSeq (sSet 3 (eC (.int 0))) (sSeq (sIf (tOf (eOp oLt (eVar 1) (eCB (c1 oLen) (aCons (eVar 0) aNil)))) (sSet 3 (eOp oIx (eVar 0) (eVar 1))) sNx) (sSeq (sSet 4 (eCall F_l_mixed (aCons (eVar 3) (aCons (eOp oAdd (eC (.int 300)) (eVar 1)) aNil)))) (sSeq (sIf (tAn (tOf (eOp oEq (eOp oMod (eVar 3) (eC (.int 2))) (eC (.int 0)))) (tOf (eOp oGt (eVar 3) (eC (.int 0))))) (sRet (eLst (aCons (eOp oDiv (eVar 3) (eC (.int 2))) (aCons (eUn oNeg (eC (.int 1))) (aCons (eVar 4) aNil))))) sNx) (sRet (eLst (aCons (eVar 4) (aCons (eVar 2) (aCons (eC (.int 0)) aNil)))))))))
/- slots of _law_next: 0=_law_draw_here 1=_law_size 2=_law_digit -/
noncomputable def F_l_next : Fn := mkFn 2 3
  (sSeq (sIf (tAn (tOf (eOp oLt (eOp oIx (eVar 0) (eC (.int 1))) (eC (.int 0)))) (tOf (eOp oGt (eOp oIx (eVar 0) (eC (.int 0))) (eC (.int 0))))) (sSeq (sSet 2 (eOp oMod (eOp oIx (eVar 0) (eC (.int 0))) (eVar 1))) (sSeq (sPut (eVar 0) (eC (.int 0)) (eOp oDiv (eOp oIx (eVar 0) (eC (.int 0))) (eVar 1))) (sRet (eVar 2)))) sNx) (sSeq (sIf (tOf (eOp oLt (eOp oIx (eVar 0) (eC (.int 1))) (eC (.int 0)))) (sSeq (sPut (eVar 0) (eC (.int 0)) (eOp oIx (eVar 0) (eC (.int 2)))) (sPut (eVar 0) (eC (.int 1)) (eC (.int 0)))) sNx) (sSeq (sLAugP oIAdd (eVar 0) (eC (.int 1)) (eC (.int 1))) (sRet (eOp oMod (eOp oDiv (eCall F_l_mixed (aCons (eOp oIx (eVar 0) (eC (.int 0))) (aCons (eOp oIx (eVar 0) (eC (.int 1))) aNil))) (eC (.int 7))) (eVar 1))))))
/- slots of _law_pick: 0=_law_draw_here 1=_law_some -/
noncomputable def F_l_pick : Fn := mkFn 2 2
  (sRet (eOp oIx (eVar 1) (eCall F_l_next (aCons (eVar 0) (aCons (eCB (c1 oLen) (aCons (eVar 1) aNil)) aNil)))))
/- slots of _law_line: 0=_law_draw_here 1=_law_now 2=_law_word 3=_law_key 4=_law_more 5=_law_k -/
noncomputable def F_l_line : Fn := mkFn 2 6
  (sSeq (sSet 2 (eCall F_l_pick (aCons (eVar 0) (aCons (eLst (aCons (eC (dS "wrote")) (aCons (eC (dS "read")) (aCons (eC (dS "stands")) (aCons (eC (dS "opened")) aNil))))) aNil)))) (sSeq (sSet 3 (eTup (aCons (eCall F_l_pick (aCons (eVar 0) (aCons (eLst (aCons (eC (.int 0)) (aCons (eC (.int 9)) (aCons (eC (.int 255)) aNil)))) aNil))) (aCons (eCall F_l_next (aCons (eVar 0) (aCons (eC (.int 256)) aNil))) (aCons (eCall F_l_pick (aCons (eVar 0) (aCons (eLst (aCons (eC (.int 128)) (aCons (eC (.int 0)) (aCons (eC (.int 255)) aNil)))) aNil))) aNil))))) (sSeq (sSet 4 (eCB (c1 oTuple) (aCons (eLc (wAs rg1 (aCons (eOp oAdd (eC (.int 1)) (eCall F_l_next (aCons (eVar 0) (aCons (eC (.int 3)) aNil)))) aNil)) (gN 5) tYe (eCall0 F_l_next (aCons (eVar 0) (aCons (eC (.int 256)) aNil))) [5]) aNil))) (sSeq (sIf (tOf (eOp oEq (eVar 2) (eC (dS "stands")))) (sSet 4 (eCall F_l_pick (aCons (eVar 0) (aCons (eLst (aCons (eC (dS "calls")) (aCons (eC (dS "answers")) (aCons (eC (dS "open")) (aCons (eC (dS "ends")) (aCons (eC (dS "left")) (aCons (eC (dS "rests")) (aCons (eC (dS "closed")) (aCons (eC (dS "cut")) (aCons (eC (dS "gone")) aNil)))))))))) aNil)))) sNx) (sSeq (sIf (tOf (eOp oEq (eVar 2) (eC (dS "opened")))) (sSet 4 (eCall F_l_pick (aCons (eVar 0) (aCons (eLst (aCons (eC (.int 0)) (aCons (eC (.int 7)) (aCons (eOp oSub (eOp oPow (eC (.int 2)) (eC (.int 32))) (eC (.int 1))) aNil)))) aNil)))) sNx) (sRet (eTup (aCons (eVar 2) (aCons (eVar 1) (aCons (eCall F_l_next (aCons (eVar 0) (aCons (eC (.int 256)) aNil))) (aCons (eVar 3) (aCons (eCall F_l_pick (aCons (eVar 0) (aCons (eLst (aCons (eC (.int 0)) (aCons (eC (.int 5)) (aCons (eOp oSub (eOp oPow (eC (.int 2)) (eC (.int 32))) (eC (.int 1))) aNil)))) aNil))) (aCons (eVar 4) aNil)))))))))))))
/- slots of _law_line_bent: 0=_law_draw_here 1=_law_line_here 2=_law_word 3=_law_now 4=_law_place 5=_law_key 6=_law_first 7=_law_more 8=_law_some 9=_law_wrongs 10=_law_wrong -/
noncomputable def F_l_line_bent : Fn := mkFn 2 11
  (sSeq (sAsg (eVar 1) (gT [(gN 2), (gN 3), (gN 4), (gN 5), (gN 6), (gN 7)])) (sSeq (sSet 8 (eLst (aCons (eSl oSl (eVar 1) oNo (oSo (eC (.int 5)))) (aCons (eCB (c1 oList) (aCons (eVar 1) aNil)) (aCons (eOp oAdd (eVar 1) (eTup (aCons (eC (.int 1)) aNil))) (aCons (eC .non) (aCons (eOp oAdd (eTup (aCons (eC (dS "told")) aNil)) (eSl oSl (eVar 1) (oSo (eC (.int 1))) oNo)) (aCons (eOp oAdd (eTup (aCons (eC (.int 5)) aNil)) (eSl oSl (eVar 1) (oSo (eC (.int 1))) oNo)) (aCons (eOp oAdd (eTup (aCons (eVar 2) (aCons (eUn oNeg (eC (.int 1))) aNil))) (eSl oSl (eVar 1) (oSo (eC (.int 2))) oNo)) aNil))))))))) (sSeq (sSet 8 (eOp oAdd (eVar 8) (eLst (aCons (eOp oAdd (eTup (aCons (eLst (aCons (eVar 2) aNil)) aNil)) (eSl oSl (eVar 1) (oSo (eC (.int 1))) oNo)) (aCons (eOp oAdd (eTup (aCons (eDNew false) aNil)) (eSl oSl (eVar 1) (oSo (eC (.int 1))) oNo)) (aCons (eOp oAdd (eSl oSl (eVar 1) oNo (oSo (eC (.int 5)))) (eTup (aCons (eDNew false) aNil))) (aCons (eOp oAdd (eSl oSl (eVar 1) oNo (oSo (eC (.int 5)))) (eTup (aCons (eLst aNil) aNil))) aNil))))))) (sSeq (sDrop (eBL oAppend (eVar 8) (aCons (eOp oAdd (eOp oAdd (eSl oSl (eVar 1) oNo (oSo (eC (.int 2)))) (eTup (aCons (eLst aNil) aNil))) (eSl oSl (eVar 1) (oSo (eC (.int 3))) oNo)) aNil))) (sSeq (sSet 8 (eOp oAdd (eVar 8) (eLst (aCons (eOp oAdd (eTup (aCons (eVar 2) (aCons (eC (.bl true)) aNil))) (eSl oSl (eVar 1) (oSo (eC (.int 2))) oNo)) (aCons (eOp oAdd (eTup (aCons (eVar 2) (aCons (eVar 3) (aCons (eC (.int 256)) aNil)))) (eSl oSl (eVar 1) (oSo (eC (.int 3))) oNo)) (aCons (eTup (aCons (eVar 2) (aCons (eVar 3) (aCons (eVar 4) (aCons (eSl oSl (eVar 5) oNo (oSo (eC (.int 2)))) (aCons (eVar 6) (aCons (eVar 7) aNil))))))) aNil)))))) (sSeq (sSet 8 (eOp oAdd (eVar 8) (eLst (aCons (eTup (aCons (eVar 2) (aCons (eVar 3) (aCons (eVar 4) (aCons (eCB (c1 oList) (aCons (eVar 5) aNil)) (aCons (eVar 6) (aCons (eVar 7) aNil))))))) (aCons (eTup (aCons (eVar 2) (aCons (eVar 3) (aCons (eVar 4) (aCons (eVar 5) (aCons (eOp oPow (eC (.int 2)) (eC (.int 32))) (aCons (eVar 7) aNil))))))) aNil))))) (sSeq (sSet 8 (eOp oAdd (eVar 8) (eLst (aCons (eTup (aCons (eVar 2) (aCons (eVar 3) (aCons (eVar 4) (aCons (eTup (aCons (eC (.int 1)) (aCons (eC (.int 2)) (aCons (eC (.int 256)) aNil)))) (aCons (eVar 6) (aCons (eVar 7) aNil))))))) (aCons (eTup (aCons (eVar 2) (aCons (eVar 3) (aCons (eVar 4) (aCons (eVar 5) (aCons (eUn oNeg (eC (.int 1))) (aCons (eVar 7) aNil))))))) aNil))))) (sSeq (sSet 9 (eDisp (dCons (eC (dS "stands")) (eLst (aCons (eC (dS "shut")) (aCons (eC (.int 5)) (aCons (eC .non) aNil)))) (dCons (eC (dS "opened")) (eLst (aCons (eUn oNeg (eC (.int 1))) (aCons (eOp oPow (eC (.int 2)) (eC (.int 32))) (aCons (eC (.bl true)) (aCons (eC .non) (aCons (eC (dS "open")) aNil)))))) dNil)))) (sSeq (sSet 10 (eCall F_l_pick (aCons (eVar 0) (aCons (eGet2 (eVar 9) (eVar 2) (eLst (aCons (eTup aNil) (aCons (eTup (aCons (eC (.int 256)) aNil)) (aCons (eLst (aCons (eC (.int 1)) aNil)) (aCons (eC (dS "a")) (aCons (eTup (aCons (eC (.bl true)) aNil)) (aCons (eC (.int 5)) (aCons (eOp oMul (eTup (aCons (eC (.int 1)) aNil)) (eC (.int 1001))) aNil))))))))) aNil)))) (sRet (eCall F_l_pick (aCons (eVar 0) (aCons (eOp oAdd (eVar 8) (eOp oMul (eLst (aCons (eTup (aCons (eVar 2) (aCons (eVar 3) (aCons (eVar 4) (aCons (eVar 5) (aCons (eVar 6) (aCons (eVar 10) aNil))))))) aNil)) (eC (.int 5)))) aNil)))))))))))))
/- slots of _law_kinds_of: 0=_law_e 1=_law_some 2=_law_k -/
noncomputable def F_l_kinds_of : Fn := mkFn 1 3
  (sSeq (sSet 1 (eLst (aCons (eCB (c2 (oIsi os_ xs_ tb_)) (aCons (eVar 0) (aCons (eC (.nm "NoBits")) aNil))) (aCons (eCB (c2 (oIsi os_ xs_ tb_)) (aCons (eVar 0) (aCons (eC (.nm "NoBook")) aNil))) (aCons (eCB (c2 (oIsi os_ xs_ tb_)) (aCons (eVar 0) (aCons (eC (.nm "NoCode")) aNil))) (aCons (eCB (c2 (oIsi os_ xs_ tb_)) (aCons (eVar 0) (aCons (eC (.nm "NoData")) aNil))) aNil)))))) (sSeq (sSet 1 (eOp oAdd (eVar 1) (eLst (aCons (eCB (c2 (oIsi os_ xs_ tb_)) (aCons (eVar 0) (aCons (eC (.nm "NoDeed")) aNil))) (aCons (eCB (c2 (oIsi os_ xs_ tb_)) (aCons (eVar 0) (aCons (eC (.nm "NoNumber")) aNil))) (aCons (eCB (c2 (oIsi os_ xs_ tb_)) (aCons (eVar 0) (aCons (eC (.nm "NoPacket")) aNil))) (aCons (eCB (c2 (oIsi os_ xs_ tb_)) (aCons (eVar 0) (aCons (eC (.nm "NoPlace")) aNil))) aNil))))))) (sSeq (sSet 1 (eOp oAdd (eVar 1) (eLst (aCons (eCB (c2 (oIsi os_ xs_ tb_)) (aCons (eVar 0) (aCons (eC (.nm "NoPort")) aNil))) (aCons (eCB (c2 (oIsi os_ xs_ tb_)) (aCons (eVar 0) (aCons (eC (.nm "NoSegment")) aNil))) (aCons (eCB (c2 (oIsi os_ xs_ tb_)) (aCons (eVar 0) (aCons (eC (.nm "NoSize")) aNil))) (aCons (eCB (c2 (oIsi os_ xs_ tb_)) (aCons (eVar 0) (aCons (eC (.nm "NoTable")) aNil))) aNil))))))) (sSeq (sSet 1 (eOp oAdd (eVar 1) (eLst (aCons (eCB (c2 (oIsi os_ xs_ tb_)) (aCons (eVar 0) (aCons (eC (.nm "NoTalk")) aNil))) (aCons (eCB (c2 (oIsi os_ xs_ tb_)) (aCons (eVar 0) (aCons (eC (.nm "NoText")) aNil))) (aCons (eCB (c2 (oIsi os_ xs_ tb_)) (aCons (eVar 0) (aCons (eC (.nm "NoTick")) aNil))) aNil)))))) (sRet (eIf (tAn (tOf (eCB (c2 (oIsi os_ xs_ tb_)) (aCons (eVar 0) (aCons (eC (.nm "WireError")) aNil)))) (tOf (eCB (c2 (oIsi os_ xs_ tb_)) (aCons (eVar 0) (aCons (eC (.ty "ValueError")) aNil))))) (eLc (wAs rg1 (aCons (eC (.int 15)) aNil)) (gN 2) (tOf (eOp oIx (eVar 1) (eVar 2))) (eVar 2) [2]) (eLst aNil)))))))
/- slots of is_between: 0=thing 1=most -/
noncomputable def F_is_between : Fn := mkFn 2 2
  (sRet (eAnd (eCB (c2 (oIsi os_ xs_ tb_)) (aCons (eVar 0) (aCons (eC (.ty "int")) aNil))) (eAnd (eNot (eCB (c2 (oIsi os_ xs_ tb_)) (aCons (eVar 0) (aCons (eC (.ty "bool")) aNil)))) (eCh oLe oLe (eC (.int 0)) (eVar 0) (eVar 1)))))
/- slots of is_whole: 0=thing 1=least 2=most -/
noncomputable def F_is_whole : Fn := mkFn 3 3
  (sRet (eAnd (eCB (c2 (oIsi os_ xs_ tb_)) (aCons (eVar 0) (aCons (eC (.ty "int")) aNil))) (eAnd (eNot (eCB (c2 (oIsi os_ xs_ tb_)) (aCons (eVar 0) (aCons (eC (.ty "bool")) aNil)))) (eCh oLe oLe (eVar 1) (eVar 0) (eVar 2)))))
/- slots of is_data: 0=thing 1=byte -/
noncomputable def F_is_data : Fn := mkFn 1 2
  (sSeq (sIf (tOo (tNo (tOf (eCB (c2 (oIsi os_ xs_ tb_)) (aCons (eVar 0) (aCons (eC (.ty "tuple")) aNil))))) (tOf (eOp oGt (eCB (c1 oLen) (aCons (eVar 0) aNil)) (eC (.int 1000))))) (sRet (eC (.bl false))) sNx) (sRet (eCB (c1 oAll) (aCons (eLc (wSeq (eVar 0)) (gN 1) tYe (eCall0 F_is_whole (aCons (eVar 1) (aCons (eC (.int 0)) (aCons (eC (.int 255)) aNil)))) [1]) aNil))))
/- slots of is_more: 0=word 1=more -/
noncomputable def F_is_more : Fn := mkFn 2 2
  (sSeq (sIf (tOf (eOp oIn (eVar 0) (eTup (aCons (eC (dS "wrote")) (aCons (eC (dS "read")) aNil))))) (sRet (eAnd (eCall F_is_data (aCons (eVar 1) aNil)) (eOp oGt (eCB (c1 oLen) (aCons (eVar 1) aNil)) (eC (.int 0))))) sNx) (sSeq (sIf (tOf (eOp oEq (eVar 0) (eC (dS "opened")))) (sRet (eCall F_is_between (aCons (eVar 1) (aCons (eOp oSub (eC (.int 4294967296)) (eC (.int 1))) aNil)))) sNx) (sRet (eAnd (eCB (c2 (oIsi os_ xs_ tb_)) (aCons (eVar 1) (aCons (eC (.ty "str")) aNil))) (eOp oIn (eVar 1) (eC (.wt [dS "calls", dS "answers", dS "open", dS "ends", dS "left", dS "rests", dS "closed", dS "cut", dS "gone"])))))))
/- slots of is_line: 0=thing 1=word 2=at 3=place 4=key 5=first 6=more 7=one -/
noncomputable def F_is_line : Fn := mkFn 1 8
  (sSeq (sIf (tOo (tNo (tOf (eCB (c2 (oIsi os_ xs_ tb_)) (aCons (eVar 0) (aCons (eC (.ty "tuple")) aNil))))) (tOf (eOp oNe (eCB (c1 oLen) (aCons (eVar 0) aNil)) (eC (.int 6))))) (sRet (eC (.bl false))) sNx) (sSeq (sAsg (eVar 0) (gT [(gN 1), (gN 2), (gN 3), (gN 4), (gN 5), (gN 6)])) (sSeq (sIf (tOo (tNo (tOf (eCB (c2 (oIsi os_ xs_ tb_)) (aCons (eVar 1) (aCons (eC (.ty "str")) aNil))))) (tOo (tOf (eOp oNotIn (eVar 1) (eTup (aCons (eC (dS "wrote")) (aCons (eC (dS "read")) (aCons (eC (dS "stands")) (aCons (eC (dS "opened")) aNil))))))) (tNo (tOf (eCall F_is_more (aCons (eVar 1) (aCons (eVar 6) aNil))))))) (sRet (eC (.bl false))) sNx) (sSeq (sIf (tOo (tNo (tOf (eCB (c2 (oIsi os_ xs_ tb_)) (aCons (eVar 2) (aCons (eC (.ty "int")) aNil))))) (tOo (tOf (eCB (c2 (oIsi os_ xs_ tb_)) (aCons (eVar 2) (aCons (eC (.ty "bool")) aNil)))) (tOf (eOp oLt (eVar 2) (eC (.int 0)))))) (sRet (eC (.bl false))) sNx) (sSeq (sIf (tOo (tNo (tOf (eCB (c2 (oIsi os_ xs_ tb_)) (aCons (eVar 4) (aCons (eC (.ty "tuple")) aNil))))) (tOo (tOf (eOp oNe (eCB (c1 oLen) (aCons (eVar 4) aNil)) (eC (.int 3)))) (tNo (tOf (eCB (c1 oAll) (aCons (eLc (wSeq (eVar 4)) (gN 7) tYe (eCall0 F_is_between (aCons (eVar 7) (aCons (eC (.int 255)) aNil))) [7]) aNil)))))) (sRet (eC (.bl false))) sNx) (sRet (eAnd (eCall F_is_between (aCons (eVar 3) (aCons (eC (.int 255)) aNil))) (eCall F_is_between (aCons (eVar 5) (aCons (eOp oSub (eC (.int 4294967296)) (eC (.int 1))) aNil))))))))))
/- slots of need_book: 0=thing 1=line 2=ticks -/
noncomputable def F_need_book : Fn := mkFn 1 3
  (sSeq (sIf (tOo (tNo (tOf (eCB (c2 (oIsi os_ xs_ tb_)) (aCons (eVar 0) (aCons (eC (.ty "list")) aNil))))) (tNo (tOf (eCB (c1 oAll) (aCons (eLc (wSeq (eVar 0)) (gN 1) tYe (eCall0 F_is_line (aCons (eVar 1) aNil)) [1]) aNil))))) (sRaise "NoBook") sNx) (sSeq (sSet 2 (eLc (wSeq (eVar 0)) (gN 1) tYe (eOp oIx (eVar 1) (eC (.int 1))) [1])) (sIf (tOf (eOp oNe (eVar 2) (eCB (c1 oSorted) (aCons (eVar 2) aNil)))) (sRaise "NoBook") sNx)))
/- slots of _law_refused: 0=_law_thing 1=_law_error 2=_law_e -/
noncomputable def F_l_refused : Fn := mkFn 1 3
  (sSeq (sSet 1 (eC .non)) (sSeq (sTryK cts_WireError 2 1 (sDrop (eCall F_need_book (aCons (eVar 0) aNil)))) (sRet (eIf (tOf (eOp oIs (eVar 1) (eC .non))) (eC .non) (eCall F_l_kinds_of (aCons (eVar 1) aNil))))))
/- slots of law: 0=_law_script 1=_law_k 2=_law_draw_here 3=_law_now 4=_law_book 5=_law_turn 6=_law_wrong 7=_law_at 8=_law_kept -/
noncomputable def F_law : Fn := mkFn 1 9
  (sSeq (sFor (wAs rg1 (aCons (eCB (c2 oMax2) (aCons (eC (.int 1)) (aCons (eCB (c2 oMin2) (aCons (eCB (c1 oLen) (aCons (eVar 0) aNil)) (aCons (eC (.int 30)) aNil))) aNil))) aNil)) (gN 1) (sSeq (sSet 2 (eCall0 F_l_draw (aCons (eVar 0) (aCons (eVar 1) (aCons (eC (.int 0)) aNil))))) (sSeq (sSet 3 (eC (.int 0))) (sSeq (sSet 4 (eLst aNil)) (sSeq (sFor (wAs rg1 (aCons (eCall0 F_l_next (aCons (eVar 2) (aCons (eC (.int 6)) aNil))) aNil)) (gN 5) (sSeq (sSet 3 (eOp oAdd (eVar 3) (eCall0 F_l_pick (aCons (eVar 2) (aCons (eLst (aCons (eC (.int 0)) (aCons (eC (.int 1)) (aCons (eC (.int 0)) (aCons (eC (.int 7)) aNil))))) aNil))))) (sDrop (eBL oAppend (eVar 4) (aCons (eCall0 F_l_line (aCons (eVar 2) (aCons (eVar 3) aNil))) aNil))))) (sSeq (sIf (tOo (tOf (eOp oIsNot (eCall0 F_l_refused (aCons (eVar 4) aNil)) (eC .non))) (tOo (tOf (eOp oIsNot (eCall0 F_need_book (aCons (eVar 4) aNil)) (eC .non))) (tOf (eOp oNe (eCall0 F_l_refused (aCons (eCB (c1 oTuple) (aCons (eVar 4) aNil)) aNil)) (eLst (aCons (eC (.int 1)) aNil)))))) (sRet (eC (.bl false))) sNx) (sSeq (sSet 6 (eCall0 F_l_pick (aCons (eVar 2) (aCons (eLst (aCons (eC .non) (aCons (eC (.int 5)) (aCons (eC (dS "wrote")) (aCons (eCB (c1 oDict) (aCons (eLst (aCons (eTup (aCons (eC (.int 1)) (aCons (eC (.int 2)) aNil))) aNil)) aNil)) (aCons (eLst (aCons (eC .non) aNil)) (aCons (eLst (aCons (eTup aNil) aNil)) (aCons (eLst (aCons (eC (.int 5)) aNil)) aNil)))))))) aNil)))) (sSeq (sIf (tOf (eOp oNe (eVar 4) (eLst aNil))) (sSeq (sSet 7 (eCall0 F_l_next (aCons (eVar 2) (aCons (eCB (c1 oLen) (aCons (eVar 4) aNil)) aNil)))) (sSet 6 (eOp oAdd (eOp oAdd (eSl oSl (eVar 4) oNo (oSo (eVar 7))) (eLst (aCons (eCall0 F_l_line_bent (aCons (eVar 2) (aCons (eOp oIx (eVar 4) (eVar 7)) aNil))) aNil))) (eSl oSl (eVar 4) (oSo (eOp oAdd (eVar 7) (eC (.int 1)))) oNo)))) sNx) (sSeq (sIf (tOf (eOp oEq (eCall0 F_l_next (aCons (eVar 2) (aCons (eC (.int 3)) aNil))) (eC (.int 0)))) (sSet 6 (eOp oAdd (eVar 4) (eLst (aCons (eCall0 F_l_line (aCons (eVar 2) (aCons (eOp oAdd (eVar 3) (eC (.int 2))) aNil))) (aCons (eCall0 F_l_line (aCons (eVar 2) (aCons (eOp oAdd (eVar 3) (eC (.int 1))) aNil))) aNil))))) sNx) (sSeq (sSet 8 (eCB (c1 oRepr) (aCons (eVar 6) aNil))) (sIf (tOo (tOf (eOp oNe (eCall0 F_l_refused (aCons (eVar 6) aNil)) (eLst (aCons (eC (.int 1)) aNil)))) (tOf (eOp oNe (eCB (c1 oRepr) (aCons (eVar 6) aNil)) (eVar 8)))) (sRet (eC (.bl false))) sNx))))))))))) (sRet (eC (.bl true))))
end Kk
namespace Kk
open PySem L2 SM
local macro_rules
  | `(tactic| simp_arith [$xs,*] $[$loc]?) => `(tactic| simp (disch := (first | omega | assumption | (simp only [List.length_set, List.length_append, List.length_cons, List.length_nil, List.length_map, List.length_take, List.length_drop, List.length_reverse, List.length_replicate, List.length_range] <;> omega) | (intro; omega) | (simp only [List.all_cons, List.all_nil, z37, z5q, Option.isSome_some, Bool.and_true, Bool.and_self]; done) | decide)) only [z77, z4p, z6t, z33, z3h, z4l, z97, z2x, z0i, z6l, z4a, z5r, z7g, eC_, zc7, zc2, z8u, z6x, zc3, z62, z47, c1_, c2_, c3_, z8g, z66, z87, zbl, z85, zbd, zb0, zbw, zb9, zaw, zcb, zba, zab, z9u, z0o, z6i, zb6, z78, zaf, zby, z8t, zb2, z6y, z56, z5f, z6c, z0w, zb8, zbz, zax, z4b, z6g, z57, z7h, z4o, z6f, z84, z7e, zcc, z8v, z2i, z8d, gN_, z5e, z28, z0s, za2, z72, z86, z9s, z88, z6q, z6v, z3i, z1q, z99, za4, z7v, z70, z5j, z67, z6s, z5h, z6u, z6j, z5c, z7k, z5u, z7u, zaa, z9b, z7s, z7l, z49, z58, z40, z7p, z6d, z9k, z8m, z59, z3k, za5, z9m, z3l, z0g, z60, z1e, z0r, z0z, z2k, z1o, z16, z1g, z27, z0q, z12, z0n, z1l, z0k, z19, z0m, z15, z03, z0f, z1i, z09, z1j, z07, z0y, z0a, z05, z0b, z13, z06, z0u, z0e, z01, z18, z2j, z1r, z1u, z7m, z5m, z26, z46, z90, z2s, za0, zbm, z25, z50, z2b, z1k, z4j, z1c, z5s, z4i, z5d, z3a, z36, z2u, z8i, z4v, z3n, z73, z7a, z0p, z4f, z3d, zb3, z8o, z5g, za3, z3b, zal, za6, zca, z35, z52, z48, zbj, zb5, zau, z38, z4n, z45, z43, z2h, za1, zbc, zb7, z6n, z3s, za8, zbk, z55, zc6, z2o, zbx, z2t, zan, z2n, z2v, z17, zbi, zbp, zav, z5w, z21, zbs, z8e, z3r, z4c, zaz, z7x, z4s, z3o, z1p, z6w, zb4, z23, z0j, zbr, z10, z08, zbf, z0c, zam, z22, z3j, zbt, zay, zc4, z5x, zaq, zbv, zbn, z3w, zad, z4m, zbh, z9n, zb1, z9o, zar, z7r, zah, z6z, z41, z02, z0l, zbu, z42, za9, zc5, z7z, z1y, z1n, z8n, z8k, z8l, z1z, z0v, z2c, z7i, z80, z9l, z9v, z98, z96, z6o, z9j, z8s, z81, z8h, z31, z2a, z2q, z8q, z9r, z3p, z0t, z63, z3t, zcd, z9x, z34, z5q, z6p, z37, zac, zag, z7t, z1s, z91, z2r, z20, z1d, z1f, z0d, z00, z1v, z14, z32, z1b, z1w, z1h, z9p, z5o, z7j, z7q, z0h, z04, c4_, z3y, zae, z5v, z44, z39, z4w, z51, z6b, z3u, z2d, z29, z8a, z53, z83, z9e, z2z, z6h, z61, z3z, z4g, z2f, z5k, z3q, z4y, z2l, z2p, zc0, z5i, z4d, z4e, z30, z9f, z5t, z7f, z71, z75, z4h, z24, z64, z5p, z4r, z4u, z7n, z6r, zc8, z9c, z8z, zak, z2w, z9q, z74, z4z, z4t, zbq, zat, z69, z8x, z7o, z7w, z5z, z79, z6m, z6k, z6e, z3x, z68, z3m, z9a, z8f, z92, z89, zao, z4k, zap, z1a, zbg, z5l, z76, zc1, z2e, z94, zai, zaj, z1x, z8y, z1m, z7c, z6a, z3c, z2y, z9t, z9y, zbb, z0x, z95, z9w, z2m, zbe, z11, z9z, z82, z3v, zbo, z4q, z8w, z8b, z8c, z7b, z7y, z4x, z8p, z9h, z8r, z3g, z54, z1t, z7d, z5a, z5b, z3f, z9d, zc9, z5y, z9g, z3e, z8j, z2g, z9i, z65, z93, wZ_, za7, zas, z5n, List.all_cons, List.all_nil, Bool.and_true, if_pos, if_neg, if_true, if_false, ite_true, ite_false, Bool.false_eq_true, Bool.true_eq_false, Bool.not_true, Bool.not_false, Bool.not_eq_true', decide_eq_true_eq, decide_eq_false_iff_not, Bool.not_eq_true, decide_true, decide_false, List.length_cons, List.length_nil, List.map_cons, List.map_nil, List.cons_append, List.nil_append, List.length_map, rep_nS, rep_n0, List.append_nil, List.mem_cons, List.mem_singleton, List.not_mem_nil, or_false, false_or, true_or, or_true, and_true, true_and, and_false, false_and, Option.isSome_some, Option.isSome_none, Option.isNone_none, Option.isNone_some, String.reduceEq, String.reduceNe, Nat.reduceAdd, Nat.reduceSub, Nat.reduceLT, Nat.reduceLeDiff, Nat.reduceMul, Int.reduceAdd, Int.reduceSub, Int.reduceMul, Int.reduceLT, Int.reduceLE, Int.reduceGT, Int.reduceEq, Int.reduceToNat, Int.reducePow, Int.reduceNeg, Nat.reduceEqDiff, eq_self, eq_self_iff_true, not_true_eq_false, not_false_eq_true, List.getElem?_cons_zero, List.getElem?_cons_succ, Option.bind_some, ne_eq, reduceCtorEq, Int.reduceDiv, Int.reduceMod, Bool.and_self, reduceIte, $xs,*] $[$loc]?)
local macro_rules
  | `(tactic| walk_at "fr!") => `(tactic| (repeat (first | exact Fr.refl | assumption | refine Fr.then_push ?_ | refine Fr.then_set ?_ (by first | exact Or.inr (Nat.le_refl _) | exact Or.inr (by omega) | (refine Or.inl ?_; simp; done) | (refine Or.inr ?_; simp; done)))))
theorem is_whole_ok {p lo hi : Int} {A : Hs} : F_is_whole [.int p, .int lo, .int hi] A = .ok (.bl (decide (lo ≤ p) && decide (p ≤ hi))) A := by
  unfold F_is_whole
  by_cases h : lo ≤ p
  · simp_arith [h, Bool.true_and]
  · simp_arith [h, Bool.false_and]
theorem is_data_ok {ds : List Int} {A : Hs} (h : ∀ b ∈ ds, 0 ≤ b ∧ b ≤ 255) (hl : ds.length ≤ 1000) : ∃ A1, F_is_data [.tup (ds.map D.int)] A = .ok (.bl true) A1 ∧ Fr [] A A1 := by
  have key : lcL (gN 1) tYe (eCall0 F_is_whole (aCons (eVar 1) (aCons (eC (.int 0)) (aCons (eC (.int 255)) aNil)))) tt [some (.tup (ds.map D.int)), none] (ds.map D.int) [] A = .ok (((ds.map D.int).filter fun _ => true).map fun _ => D.bl true) A := by
    refine lc_go _ _ trivial (by simp; omega) fun d hd => ?_
    obtain ⟨b, hb, rfl⟩ := List.mem_map.mp hd
    have := h b hb
    simp_arith [is_whole_ok]
    simp [this.1, this.2]
  refine ⟨_, ?_, .push (u := .lst (ds.map fun _ => .bl true))⟩
  have e : ∀ l : List Int, boolsOf (l.map fun _ => D.bl true) = some (l.map fun _ => true) := fun l => by
    have := z02 (l.map fun _ => true)
    rwa [List.map_map] at this
  have e2 : ((ds.map D.int).filter fun _ => true).map (fun _ => D.bl true) = ds.map fun _ => D.bl true := by
    rw [List.filter_eq_self.mpr (by simp), List.map_map]; rfl
  rw [e2] at key
  unfold F_is_data
  simp_arith [key, e]
  simp

/-! books: talks and lines as plain data -/
structure Tk where
  p : Int
  a : Int
  b : Int
  c : Int
  f : Int
deriving DecidableEq
def Tk.d (k : Tk) : D := .tup [.int k.p, .tup [.int k.a, .int k.b, .int k.c], .int k.f]
def Tk.k (k : Tk) : NestedKey := .tup [.num k.p, .tup [.num k.a, .num k.b, .num k.c], .num k.f]
inductive Ev where
  | op (o : Int) | wr (l : List Int) | rd (l : List Int) | st (s : String)
def Ev.w : Ev → String
  | .op _ => "opened" | .wr _ => "wrote" | .rd _ => "read" | .st _ => "stands"
def Ev.m : Ev → D
  | .op o => .int o | .wr l => .tup (l.map D.int) | .rd l => .tup (l.map D.int) | .st s => dS s
structure Ln where
  t : Int
  k : Tk
  e : Ev
def Ln.d (x : Ln) : D := .tup [dS x.e.w, .int x.t, .int x.k.p, .tup [.int x.k.a, .int x.k.b, .int x.k.c], .int x.k.f, x.e.m]
def stands : List String := ["calls", "answers", "open", "ends", "left", "rests", "closed", "cut", "gone"]
def EvOk : Ev → Prop
  | .op o => 0 ≤ o ∧ o ≤ 4294967295
  | .wr l => (∀ b ∈ l, 0 ≤ b ∧ b ≤ 255) ∧ 1 ≤ l.length ∧ l.length ≤ 1000
  | .rd l => (∀ b ∈ l, 0 ≤ b ∧ b ≤ 255) ∧ 1 ≤ l.length ∧ l.length ≤ 1000
  | .st s => s ∈ stands
structure TkOk (k : Tk) : Prop where
  p : 0 ≤ k.p ∧ k.p ≤ 255
  a : 0 ≤ k.a ∧ k.a ≤ 255
  b : 0 ≤ k.b ∧ k.b ≤ 255
  c : 0 ≤ k.c ∧ k.c ≤ 255
  f : 0 ≤ k.f ∧ k.f ≤ 4294967295
structure LnOk (x : Ln) : Prop where
  t : 0 ≤ x.t
  k : TkOk x.k
  e : EvOk x.e
structure BkOk (L : List Ln) : Prop where
  l : L.length ≤ 1000
  x : ∀ x ∈ L, LnOk x
  s : (L.map Ln.t).Pairwise (· ≤ ·)
theorem BkOk.take {L : List Ln} (h : BkOk L) (n : Nat) : BkOk (L.take n) :=
  ⟨by have := h.l; rw [List.length_take]; omega, fun x hx => h.x x (List.mem_of_mem_take hx), by rw [List.map_take]; exact h.s.sublist (List.take_sublist _ _)⟩
theorem line_at1 {x : Ln} {A : Hs} : oIx x.d (.int 1) A = .ok (.int x.t) A := rfl
/-! need_book -/
theorem is_between_ok {p hi : Int} {A : Hs} : F_is_between [.int p, .int hi] A = .ok (.bl (decide (0 ≤ p) && decide (p ≤ hi))) A := by
  unfold F_is_between
  by_cases h : (0 : Int) ≤ p
  · simp_arith [h, Bool.true_and]
  · simp_arith [h, Bool.false_and]
theorem is_between_t {p hi : Int} {A : Hs} (h : 0 ≤ p ∧ p ≤ hi) : F_is_between [.int p, .int hi] A = .ok (.bl true) A := by
  rw [is_between_ok, decide_eq_true h.1, decide_eq_true h.2]; rfl
theorem in_wordsN {neg : Bool} {s : String} {A : Hs} {l : List String} (h : s ∈ l) : inl_ A (dS s) (l.map dS) neg = .ok (.bl (!neg)) A := by
  unfold inl_
  have e1 : pyA A 40 (dS s) = some (.str (fS s)) := rfl
  have e2 : allSome ((l.map dS).map (pyA A 39)) = some (l.map fun x => .str (fS x)) := by
    clear h
    induction l with
    | nil => rfl
    | cons x l ih =>
      rw [List.map_cons, List.map_cons, List.map_cons]
      have : pyA A 39 (dS x) = some (.str (fS x)) := rfl
      rw [this, allSome, ih]; rfl
  rw [e1, e2]
  have : ((l.map fun x => PyData.str (fS x)).any fun z => PyData.eqv z (.str (fS s))) = true := by
    rw [List.any_eq_true]
    exact ⟨_, List.mem_map.mpr ⟨s, h, rfl⟩, by simp [PyData.eqv]⟩
  simp only [this]
  cases neg <;> rfl
theorem in_words {s : String} {A : Hs} {l : List String} (h : s ∈ l) : inl_ A (dS s) (l.map dS) false = .ok (.bl true) A := in_wordsN h
theorem is_more_ok {e : Ev} {A : Hs} (h : EvOk e) : Rk (F_is_more [dS e.w, e.m] A) fun v A1 => v = .bl true ∧ Fr [] A A1 := by
  unfold F_is_more
  cases e with
  | op o =>
    have e1 := is_between_t (A := A) (p := o) (hi := 4294967295) h
    have i1 : inl_ A (dS "opened") [dS "wrote", dS "read"] false = .ok (.bl false) A := rfl
    simp_arith [Ev.w, Ev.m, i1, e1]
    exact Fr.refl
  | wr l =>
    obtain ⟨A1, e1, f1⟩ := is_data_ok (A := A) h.1 h.2.2
    have h2 := h.2.1
    have i1 : inl_ A (dS "wrote") [dS "wrote", dS "read"] false = .ok (.bl true) A := in_words (l := ["wrote", "read"]) (by simp)
    have h3 : (0 : Int) < (l.length : Int) := by omega
    simp_arith [Ev.w, Ev.m, i1, e1, h3]
    exact f1
  | rd l =>
    obtain ⟨A1, e1, f1⟩ := is_data_ok (A := A) h.1 h.2.2
    have h2 := h.2.1
    have i1 : inl_ A (dS "read") [dS "wrote", dS "read"] false = .ok (.bl true) A := in_words (l := ["wrote", "read"]) (by simp)
    have h3 : (0 : Int) < (l.length : Int) := by omega
    simp_arith [Ev.w, Ev.m, i1, e1, h3]
    exact f1
  | st s =>
    have i1 : inl_ A (dS "stands") [dS "wrote", dS "read"] false = .ok (.bl false) A := rfl
    have i2 : oIn (dS s) (.wt [dS "calls", dS "answers", dS "open", dS "ends", dS "left", dS "rests", dS "closed", dS "cut", dS "gone"]) A = .ok (.bl true) A := by
      have := in_words (A := A) (l := stands) h
      exact this
    simp_arith [Ev.w, Ev.m, i1, i2]
    exact Fr.refl

theorem isi_ss {s : String} {A : Hs} : oIsi os_ xs_ tb_ (dS s) (.ty "str") A = .ok (.bl true) A := rfl
theorem Ev.w_ne (e : Ev) : e.w ∈ ["wrote", "read", "stands", "opened"] := by cases e <;> simp [Ev.w]
theorem is_line_ok {x : Ln} {A : Hs} (h : LnOk x) : Rk (F_is_line [x.d] A) fun v A1 => v = .bl true ∧ Fr [] A A1 := by
  obtain ⟨_, A1, e1, rfl, f1⟩ := (is_more_ok (A := A) h.e).ex
  have i1 : inl_ A (dS x.e.w) [dS "wrote", dS "read", dS "stands", dS "opened"] true = .ok (.bl false) A := in_wordsN (l := ["wrote", "read", "stands", "opened"]) x.e.w_ne
  have ht := h.t
  have key : ∀ B, lcL (gN 7) tYe (eCall0 F_is_between (aCons (eVar 7) (aCons (eC (.int 255)) aNil))) tt [some x.d, some (dS x.e.w), some (.int x.t), some (.int x.k.p), some (.tup [.int x.k.a, .int x.k.b, .int x.k.c]), some (.int x.k.f), some x.e.m, none] [.int x.k.a, .int x.k.b, .int x.k.c] [] B = .ok (([D.int x.k.a, .int x.k.b, .int x.k.c].filter fun _ => true).map fun _ => D.bl true) B := fun B => by
    refine lc_go _ _ trivial (by simp) fun d hd => ?_
    have : ∃ n : Int, d = .int n ∧ 0 ≤ n ∧ n ≤ 255 := by
      simp only [List.mem_cons, List.not_mem_nil, or_false] at hd
      rcases hd with rfl | rfl | rfl
      · exact ⟨_, rfl, h.k.a⟩
      · exact ⟨_, rfl, h.k.b⟩
      · exact ⟨_, rfl, h.k.c⟩
    obtain ⟨n, rfl, hn⟩ := this
    have e1 := is_between_t (A := B) hn
    show Got _ _
    simp_arith [e1]
    try exact fun _ => trivial
  have b1 : ∀ B, F_is_between [.int x.k.p, .int 255] B = .ok (.bl true) B := fun B => is_between_t h.k.p
  have b2 : ∀ B, F_is_between [.int x.k.f, .int 4294967295] B = .ok (.bl true) B := fun B => is_between_t h.k.f
  have al : boolsOf [D.bl true, .bl true, .bl true] = some [true, true, true] := rfl
  have nt : ¬ x.t < 0 := by omega
  unfold F_is_line
  have dd : x.d = .tup [dS x.e.w, .int x.t, .int x.k.p, .tup [.int x.k.a, .int x.k.b, .int x.k.c], .int x.k.f, x.e.m] := rfl
  rw [dd] at key ⊢
  have key := key A1
  rw [show (List.filter (fun _ => true) [D.int x.k.a, .int x.k.b, .int x.k.c]).map (fun _ => D.bl true) = [.bl true, .bl true, .bl true] from rfl] at key
  simp_arith [isi_ss, i1, e1, key, b1, b2, al, nt]
  exact Fr.then_push f1
theorem srt_same {l : List Int} (h : l.Pairwise (· ≤ ·)) : srt l = l := (srt_eq (List.Perm.refl l) h).symm
theorem lc_frs {g : G} {t : Tt} {a : E} {env : Sl} {gd : Hs → Prop} (f : D → D) {ds : List D} {A : Hs} (hl : ds.length < 16000000) (hg : ∀ B, Fr [] A B → gd B) (hs : ∀ d ∈ ds, ∀ B, Fr [] A B → Got (g d env B) fun e1 => Rk (t e1 B) fun c A1 => c = true ∧ A1 = B ∧ Rk (a e1 B) fun v A2 => v = f d ∧ Fr [] B A2) :
    ∃ A1, lcL g t a gd env ds [] A = .ok (ds.map f) A1 ∧ Fr [] A A1 := by
  have R := lc_run (g := g) (t := t) (a := a) (gd := gd) (env := env) (fun i l B => l = (ds.take i).map f ∧ Fr [] A B) ⟨rfl, Fr.refl⟩ hl (fun _ _ B h => hg B h.2) (by
    rintro i d hd l B ⟨rfl, fB⟩
    have h := hs d (List.mem_of_getElem? hd) B fB
    cases q : g d env B with
    | none => rw [q] at h; exact h.elim
    | some e1 =>
      rw [q] at h
      obtain ⟨c, A1, h1, rfl, rfl, h2⟩ := Rk.ex h
      obtain ⟨v, A2, h3, rfl, h4⟩ := h2.ex
      show Rk (t e1 _) _
      rw [h1]
      show Rk (a e1 _) _
      rw [h3]
      exact ⟨by rw [List.take_succ, hd]; simp, fB.trans h4⟩)
  obtain ⟨l, A1, e, h1, f⟩ := R.ex
  rw [List.take_length] at h1
  exact ⟨A1, by rw [e, h1], f⟩
theorem all_tr {L : List Ln} : boolsOf (L.map fun _ => D.bl true) = some (L.map fun _ => true) := by
  have := z02 (L.map fun _ => true)
  rwa [List.map_map] at this
theorem need_book_ok {A : Hs} {b : Nat} {L : List Ln} (hb : A[b]? = some (.lst (L.map Ln.d))) (h : BkOk L) : Rk (F_need_book [.ref b] A) fun v A1 => v = .non ∧ Fr [] A A1 := by
  have hl := h.l
  have bl := lt_of_get hb
  obtain ⟨A1, e1, f1⟩ := lc_frs (g := gN 1) (t := tYe) (a := eCall0 F_is_line (aCons (eVar 1) aNil)) (gd := fun A' => A'[b]? = some (.lst (L.map Ln.d))) (env := [some (.ref b), none, none]) (A := A) (ds := L.map Ln.d) (fun _ => .bl true) (by simp; omega) (fun B f => f.get hb (by simp)) (by
    intro d hd B fB
    obtain ⟨x, hx, rfl⟩ := List.mem_map.mp hd
    obtain ⟨_, A2, e, rfl, f⟩ := (is_line_ok (A := B) (h.x x hx)).ex
    show Got _ _
    simp_arith [e]
    exact f)
  rw [List.map_map] at e1
  have hb1 := f1.get hb (by simp)
  have bl1 := lt_of_get hb1
  have hb2 : (A1 ++ [O.lst (L.map fun _ => D.bl true)])[b]? = some (.lst (L.map Ln.d)) := by rw [List.getElem?_append_left bl1]; exact hb1
  have e2 : lcL (gN 1) tYe (eOp oIx (eVar 1) (eC (.int 1))) (fun A' => A'[b]? = some (.lst (L.map Ln.d))) [some (.ref b), none, none] (L.map Ln.d) [] (A1 ++ [O.lst (L.map fun _ => D.bl true)]) = .ok ((L.map Ln.t).map D.int) (A1 ++ [O.lst (L.map fun _ => D.bl true)]) := by
    rw [lc_go (fun _ => true) (fun d => match d with | .tup (_ :: t :: _) => t | _ => .non) hb2 (by simp; omega)]
    · rw [List.filter_eq_self.mpr (by simp), List.map_map, List.map_map]; rfl
    · intro d hd
      obtain ⟨x, hx, rfl⟩ := List.mem_map.mp hd
      show Got _ _
      simp_arith [line_at1]
      try exact fun _ => rfl
  have e3 : (Function.comp (fun _ => D.bl true) Ln.d) = fun _ => D.bl true := rfl
  rw [e3] at e1
  have hs := srt_same h.s
  have e5 : (L.map fun _ => true).all id = true := by simp
  have i1 : oIsi os_ xs_ tb_ (.ref b) (.ty "list") A = .ok (.bl true) A := by
    unfold oIsi isiD kdOf
    simp only [hb]
    rfl
  unfold F_need_book
  simp_arith [hb, i1, e1, all_tr, hb1, e2, e5, z0l, hs]
  rw [oNe_lst (l := (L.map Ln.t).map D.int) (by
    rw [List.getElem?_append_left (by simp), List.getElem?_append_right (by simp)]; simp) (by
    rw [List.getElem?_append_right (by simp)]; simp) (by rw [List.all_eq_true]; intro d hd; obtain ⟨n, _, rfl⟩ := List.mem_map.mp hd; exact pd_int)]
  simp_arith []
  exact Fr.then_push (Fr.then_push (Fr.then_push f1))

/-! draws of the worlds' and forms' laws: half the cell while -1 stands, the mix -/
def mx (p q : Int) : Int := ((p + 7919 * q + 11) * 48271 % 2147483647 * ((p + 7919 * q + 11) * 48271 % 2147483647) + 40692 * ((p + 7919 * q + 11) * 48271 % 2147483647)) % 2147483399
theorem mixed_ok {p q : Int} {A : Hs} : F_l_mixed [.int p, .int q] A = .ok (.int (mx p q)) A := by
  unfold F_l_mixed
  simp_arith []
  rfl
def Drw (A : Hs) (i : Nat) : Prop := ∃ a b c : Int, A[i]? = some (.lst [.int a, .int b, .int c])
theorem Drw.frame {A A1 : Hs} {i : Nat} {s : List Nat} (h : Drw A i) (f : Fr s A A1) (hi : i ∉ s) : Drw A1 i := by
  obtain ⟨a, b, c, h⟩ := h
  exact ⟨a, b, c, f.get h hi⟩
theorem Drw.lt {A : Hs} {i : Nat} (h : Drw A i) : i < A.length := by
  obtain ⟨a, b, c, h⟩ := h
  exact lt_of_get h
theorem draw_ok {ns : List Int} {k c : Int} {A : Hs} (hk : 0 ≤ k) : Rk (F_l_draw [.scr (ns.map D.int), .int k, .int c] A) fun v A1 => v = .ref A.length ∧ Drw A1 A.length ∧ Fr [] A A1 := by
  unfold F_l_draw
  by_cases h : k < (ns.length : Int)
  · have e : (ns.map D.int)[k.toNat]? = some (.int (ns[k.toNat]'(by omega))) := by
      rw [List.getElem?_map, List.getElem?_eq_getElem (by omega)]; rfl
    generalize ns[k.toNat]'(by omega) = w at e
    by_cases q : w % 2 = 0
    · by_cases q2 : 0 < w
      · simp_arith [h, e, mixed_ok, q, q2]
        exact ⟨⟨_, _, _, zc5⟩, .push⟩
      · simp_arith [h, e, mixed_ok, q, q2]
        exact ⟨⟨_, _, _, zc5⟩, .push⟩
    · simp_arith [h, e, mixed_ok, q]
      exact ⟨⟨_, _, _, zc5⟩, .push⟩
  · simp_arith [h, mixed_ok]
    exact ⟨⟨_, _, _, zc5⟩, .push⟩
theorem next_ok {A : Hs} {i : Nat} {n : Int} (h : Drw A i) (hn : 0 < n) (hn2 : n < 18446744073709551616) : ∃ v A1, 0 ≤ v ∧ v < n ∧ F_l_next [.ref i, .int n] A = .ok (.int v) A1 ∧ Drw A1 i ∧ Fr [i] A A1 := by
  obtain ⟨a, b, c, h⟩ := h
  have hi := lt_of_get h
  unfold F_l_next
  by_cases q1 : b < 0
  · by_cases q2 : 0 < a
    · refine ⟨a % n, A.set i (.lst [.int (a / n), .int b, .int c]), Int.emod_nonneg _ (by omega), Int.emod_lt_of_pos _ hn, ?_, ⟨_, _, _, zbu hi⟩, .set (by simp)⟩
      simp_arith [h, q1, q2, List.set_cons_zero]
    · refine ⟨mx c 1 / 7 % n, A.set i (.lst [.int c, .int 1, .int c]), Int.emod_nonneg _ (by omega), Int.emod_lt_of_pos _ hn, ?_, ⟨_, _, _, zbu hi⟩, .set (by simp)⟩
      simp_arith [h, q1, q2, List.set_cons_zero, List.set_cons_succ, mixed_ok]
  · refine ⟨mx a (b + 1) / 7 % n, A.set i (.lst [.int a, .int (b + 1), .int c]), Int.emod_nonneg _ (by omega), Int.emod_lt_of_pos _ hn, ?_, ⟨_, _, _, zbu hi⟩, .set (by simp)⟩
    simp_arith [h, q1, List.set_cons_zero, List.set_cons_succ, mixed_ok]

/-! one of a list just written -/
theorem Drw.pushed {A : Hs} {i : Nat} {x : O} (d : Drw A i) : Drw (A ++ [x]) i := d.frame (s := []) .push (by simp)
theorem Drw.rg {A : Hs} {i : Nat} {l : List D} {q : Nat} (h : Drw A i) (hq : A[q]? = some (.lst l)) (hn : q ≠ i) (hl : 0 < l.length) (hl2 : l.length ≤ 100000) : ∃ x A1, x ∈ l ∧ F_l_pick [.ref i, .ref q] A = .ok x A1 ∧ Drw A1 i ∧ Fr [i] A A1 := by
  obtain ⟨v, A1, a, b, e, d1, f⟩ := next_ok (n := (l.length : Int)) h (by omega) (by omega)
  have hv : v.toNat < l.length := by omega
  have hq1 := f.get hq (by simpa using hn)
  refine ⟨l[v.toNat], A1, List.getElem_mem _, ?_, d1, f⟩
  have ix : l[v.toNat]? = some l[v.toNat] := List.getElem?_eq_getElem hv
  unfold F_l_pick
  simp_arith [hq, e, hq1, ix]
/-- one of a list just written -/
theorem Drw.pk {A : Hs} {i : Nat} {l : List D} (h : Drw A i) (hl : 0 < l.length) (hl2 : l.length ≤ 100000) : ∃ x A1, x ∈ l ∧ F_l_pick [.ref i, .ref A.length] (A ++ [.lst l]) = .ok x A1 ∧ Drw A1 i ∧ Fr [i] A A1 := by
  have lt := h.lt
  obtain ⟨x, A1, hx, e, d1, f⟩ := (h.pushed (x := .lst l)).rg (q := A.length) zc5 (by omega) hl hl2
  exact ⟨x, A1, hx, e, d1, Fr.push.trans f⟩

/-! a line drawn -/
open DL (Bytes)
theorem lline_d {A : Hs} {i : Nat} {t : Int} (d : Drw A i) (ht : 0 ≤ t) : Rk (F_l_line [.ref i, .int t] A) fun v A1 => ∃ x : Ln, v = x.d ∧ x.t = t ∧ LnOk x ∧ x.e.m ≠ .non ∧ (∀ l, x.e = .wr l ∨ x.e = .rd l → l.length ≤ 3) ∧ Drw A1 i ∧ Fr [i] A A1 := by
  obtain ⟨w, A1, hw, e1, d1, f1⟩ := d.pk (l := [dS "wrote", dS "read", dS "stands", dS "opened"]) (by simp) (by simp)
  obtain ⟨a, A2, ha, e2, d2, f2⟩ := d1.pk (l := [.int 0, .int 9, .int 255]) (by simp) (by simp)
  obtain ⟨b, A3, b1, b2, e3, d3, f3⟩ := next_ok (n := 256) d2 (by decide) (by decide)
  obtain ⟨c, A4, hc, e4, d4, f4⟩ := d3.pk (l := [.int 128, .int 0, .int 255]) (by simp) (by simp)
  obtain ⟨n, A5, n1, n2, e5, d5, f5⟩ := next_ok (n := 3) d4 (by decide) (by decide)
  have hn : (rgL 0 1 (1 + n).toNat).length = (1 + n).toNat := rgL_len
  obtain ⟨a, rfl, ha1, ha2⟩ : ∃ a' : Int, a = .int a' ∧ 0 ≤ a' ∧ a' ≤ 255 := by
    simp only [List.mem_cons, List.not_mem_nil, or_false] at ha
    rcases ha with rfl | rfl | rfl <;> exact ⟨_, rfl, by decide, by decide⟩
  obtain ⟨c, rfl, hc1, hc2⟩ : ∃ a' : Int, c = .int a' ∧ 0 ≤ a' ∧ a' ≤ 255 := by
    simp only [List.mem_cons, List.not_mem_nil, or_false] at hc
    rcases hc with rfl | rfl | rfl <;> exact ⟨_, rfl, by decide, by decide⟩
  have R := lc_run (A := A5) (g := gN 5) (t := tYe) (a := eCall0 F_l_next (aCons (eVar 0) (aCons (eC (.int 256)) aNil))) (gd := tt) (env := [some (.ref i), some (.int t), some w, some (.tup [.int a, .int b, .int c]), none, none]) (ds := rgL 0 1 (1 + n).toNat) (fun j l B => (∃ ds : List Int, l = ds.map D.int ∧ ds.length = j ∧ Bytes ds) ∧ Drw B i ∧ Fr [i] A5 B) ⟨⟨[], rfl, rfl, fun b hb => (by cases hb)⟩, d5, .refl⟩ (by rw [rgL_len]; omega) (fun _ _ _ _ => trivial) (by
    rintro j x hd l B ⟨⟨ds, rfl, hj, hb⟩, dB, fB⟩
    obtain ⟨rfl, hi⟩ := rgL_get hd
    obtain ⟨z, B1, za, zb, e2, d2, f2⟩ := next_ok (n := 256) dB (by decide) (by decide)
    show Got _ _
    simp_arith [e2]
    refine ⟨⟨ds ++ [z], by simp, by simp [hj], fun b hb' => ?_⟩, d2, fB.trans f2⟩
    rcases List.mem_append.mp hb' with c | c
    · exact hb b c
    · rw [List.mem_singleton] at c; subst c; exact ⟨za, by omega⟩)
  obtain ⟨l, A6, e6, ⟨ds, rfl, hl, hb⟩, d6, f6⟩ := R.ex
  rw [hn] at hl
  have d7 := d6.pushed (x := .lst (ds.map D.int))
  have f06 : Fr [i] A A6 := f1.trans (f2.trans (f3.trans (f4.trans (f5.trans f6))))
  have fin : ∀ {B : Hs} {m : D} (e : Ev), m = e.m → e.w ∈ ["wrote", "read", "stands", "opened"] → EvOk e → Drw B i → Fr [i] A B → True := fun _ _ _ _ _ _ => trivial
  unfold F_l_line
  simp only [List.mem_cons, List.not_mem_nil, or_false] at hw
  have tail : ∀ {B : Hs}, Drw B i → ∃ p B1 q B2, (0 ≤ p ∧ p ≤ 255) ∧ (0 ≤ q ∧ q ≤ 4294967295) ∧ F_l_next [.ref i, .int 256] B = .ok (.int p) B1 ∧ F_l_pick [.ref i, .ref B1.length] (B1 ++ [.lst [.int 0, .int 5, .int 4294967295]]) = .ok (.int q) B2 ∧ Drw B2 i ∧ Fr [i] B B2 := by
    intro B dB
    obtain ⟨p, B1, p1, p2, k1, dB1, g1⟩ := next_ok (n := 256) dB (by decide) (by decide)
    obtain ⟨q, B2, hq, k2, dB2, g2⟩ := dB1.pk (l := [.int 0, .int 5, .int 4294967295]) (by simp) (by simp)
    simp only [List.mem_cons, List.not_mem_nil, or_false] at hq
    rcases hq with rfl | rfl | rfl
    · exact ⟨p, B1, 0, B2, ⟨p1, by omega⟩, by decide, k1, k2, dB2, g1.trans g2⟩
    · exact ⟨p, B1, 5, B2, ⟨p1, by omega⟩, by decide, k1, k2, dB2, g1.trans g2⟩
    · exact ⟨p, B1, 4294967295, B2, ⟨p1, by omega⟩, by decide, k1, k2, dB2, g1.trans g2⟩
  rcases hw with rfl | rfl | rfl | rfl
  · obtain ⟨p, B1, q, B2, hp, hq, k1, k2, dB, g⟩ := tail d7
    simp_arith [e1, e2, e3, e4, e5, e6, k1, k2]
    exact ⟨⟨t, ⟨p, a, b, c, q⟩, .wr ds⟩, rfl, rfl, ⟨ht, ⟨hp, ⟨ha1, ha2⟩, ⟨b1, Int.le_of_lt_add_one b2⟩, ⟨hc1, hc2⟩, hq⟩, ⟨hb, by omega, by omega⟩⟩, by simp [Ev.m], (by rintro l (h | h) <;> cases h; omega), dB, f06.trans (Fr.push.trans g)⟩
  · obtain ⟨p, B1, q, B2, hp, hq, k1, k2, dB, g⟩ := tail d7
    simp_arith [e1, e2, e3, e4, e5, e6, k1, k2]
    exact ⟨⟨t, ⟨p, a, b, c, q⟩, .rd ds⟩, rfl, rfl, ⟨ht, ⟨hp, ⟨ha1, ha2⟩, ⟨b1, Int.le_of_lt_add_one b2⟩, ⟨hc1, hc2⟩, hq⟩, ⟨hb, by omega, by omega⟩⟩, by simp [Ev.m], (by rintro l (h | h) <;> cases h; omega), dB, f06.trans (Fr.push.trans g)⟩
  · obtain ⟨m, A8, hm, e8, d8, f8⟩ := d7.pk (l := stands.map dS) (by simp [stands]) (by simp [stands])
    obtain ⟨s, hs, rfl⟩ := List.mem_map.mp hm
    obtain ⟨p, B1, q, B2, hp, hq, k1, k2, dB, g⟩ := tail d8
    simp only [stands, List.map_cons, List.map_nil, List.length_append, List.length_singleton] at e8
    simp_arith [e1, e2, e3, e4, e5, e6, e8, k1, k2]
    exact ⟨⟨t, ⟨p, a, b, c, q⟩, .st s⟩, rfl, rfl, ⟨ht, ⟨hp, ⟨ha1, ha2⟩, ⟨b1, Int.le_of_lt_add_one b2⟩, ⟨hc1, hc2⟩, hq⟩, hs⟩, by simp [Ev.m, dS], (by rintro l (h | h) <;> cases h), dB, f06.trans (Fr.push.trans (f8.trans g))⟩
  · obtain ⟨m, A8, hm, e8, d8, f8⟩ := d7.pk (l := [.int 0, .int 7, .int 4294967295]) (by simp) (by simp)
    obtain ⟨o, rfl, ho⟩ : ∃ o : Int, m = .int o ∧ 0 ≤ o ∧ o ≤ 4294967295 := by
      simp only [List.mem_cons, List.not_mem_nil, or_false] at hm
      rcases hm with rfl | rfl | rfl <;> exact ⟨_, rfl, by decide, by decide⟩
    obtain ⟨p, B1, q, B2, hp, hq, k1, k2, dB, g⟩ := tail d8
    simp only [List.length_append, List.length_singleton] at e8
    simp_arith [e1, e2, e3, e4, e5, e6, e8, k1, k2]
    exact ⟨⟨t, ⟨p, a, b, c, q⟩, .op o⟩, rfl, rfl, ⟨ht, ⟨hp, ⟨ha1, ha2⟩, ⟨b1, Int.le_of_lt_add_one b2⟩, ⟨hc1, hc2⟩, hq⟩, ho⟩, by simp [Ev.m], (by rintro l (h | h) <;> cases h), dB, f06.trans (Fr.push.trans (f8.trans g))⟩

/-! data that repr can show -/
structure SmP (W n : Nat) (p : PyData) : Prop where
  s : p.showable = true
  l : p.leavesShort 13 = true
  b : p.bulk ≤ W
  d : p.depth ≤ n
structure SmL (W n : Nat) (p : List PyData) : Prop where
  s : PyData.showableAll p = true
  l : PyData.leavesShortAll 13 p = true
  b : PyData.bulkAll p ≤ W
  d : PyData.depthAll p ≤ n
theorem SmP.mono {W n V m : Nat} {p : PyData} (h : SmP W n p) (k : W ≤ V) (j : n ≤ m) : SmP V m p := ⟨h.s, h.l, Nat.le_trans h.b k, Nat.le_trans h.d j⟩
theorem SmP.non : SmP 0 0 .none := ⟨rfl, rfl, Nat.le_refl _, Nat.le_refl _⟩
theorem SmP.bl {b : Bool} : SmP 0 0 (.bool b) := ⟨rfl, rfl, Nat.le_refl _, Nat.le_refl _⟩
theorem SmP.int {i : Int} (h : i.natAbs < 10 ^ 12) : SmP 0 0 (.int i) := by
  refine ⟨?_, ?_, Nat.le_refl _, Nat.le_refl _⟩
  · simp only [PyData.showable, decide_eq_true_eq]
    by_cases z : i.natAbs = 0
    · rw [z]; decide
    · have : i.natAbs.log2 < 40 := (Nat.log2_lt z).mpr (Nat.lt_of_lt_of_le h (by decide))
      omega
  · simp only [PyData.leavesShort, decide_eq_true_eq]
    exact PyData.shown_int_le h
theorem SmP.dS {s : String} (h : ((fS s).cps.toList.all fun c => decide (c < 16 ^ 8)) = true) (hl : (fS s).cps.size ≤ 20) : SmP 20 0 (.str (fS s)) :=
  ⟨rfl, by simpa only [PyData.leavesShort] using h, hl, Nat.le_refl _⟩
theorem SmL.nil : SmL 0 0 [] := ⟨rfl, rfl, Nat.le_refl _, Nat.le_refl _⟩
theorem SmL.cons {W n V m : Nat} {p : PyData} {l : List PyData} (h : SmP W n p) (k : SmL V m l) : SmL (W + 1 + V) (max n m) (p :: l) := by
  obtain ⟨h1, h2, h3, h4⟩ := h
  obtain ⟨k1, k2, k3, k4⟩ := k
  refine ⟨by simp only [PyData.showableAll, h1, k1, Bool.and_self], by simp only [PyData.leavesShortAll, h2, k2, Bool.and_self], by simp only [PyData.bulkAll]; omega, by simp only [PyData.depthAll]; omega⟩
theorem SmL.mono {W n V m : Nat} {p : List PyData} (h : SmL W n p) (k : W ≤ V) (j : n ≤ m) : SmL V m p := ⟨h.s, h.l, Nat.le_trans h.b k, Nat.le_trans h.d j⟩
theorem SmL.tup {W n : Nat} {l : List PyData} (h : SmL W n l) : SmP W (n + 1) (.tuple l) :=
  ⟨by simpa only [PyData.showable] using h.s, by simpa only [PyData.leavesShort] using h.l, by simpa only [PyData.bulk] using h.b, by simp only [PyData.depth]; have := h.d; omega⟩
theorem SmL.lst {W n : Nat} {l : List PyData} (h : SmL W n l) : SmP W (n + 1) (.list l) :=
  ⟨by simpa only [PyData.showable] using h.s, by simpa only [PyData.leavesShort] using h.l, by simpa only [PyData.bulk] using h.b, by simp only [PyData.depth]; have := h.d; omega⟩
theorem SmL.ints : ∀ {ns : List Int}, (∀ n ∈ ns, n.natAbs < 10 ^ 12) → SmL ns.length 0 (ns.map .int)
  | [], _ => .nil
  | n :: r, h => by
    have := SmL.cons (SmP.int (h n List.mem_cons_self)) (SmL.ints (ns := r) fun m hm => h m (List.mem_cons_of_mem _ hm))
    exact this.mono (by rw [List.length_cons]; omega) (by simp)
/-! how the heap's data is read: stays so while nothing of it is changed -/
structure ShA (s : List Nat) (A : Hs) (W n : Nat) (d : D) : Prop where
  ex : ∃ p, (∀ B, Fr s A B → ∀ k, n ≤ k → pyA B k d = some p) ∧ p.hasDict = false ∧ SmP W n p
structure ShQ (s : List Nat) (A : Hs) (W n : Nat) (d : D) : Prop where
  ex : ∃ p, (∀ B, Fr s A B → ∀ k, n ≤ k → pyQ B k d = some p) ∧ SmP W n p
def NoA (s : List Nat) (A : Hs) (d : D) : Prop := ∀ B, Fr s A B → ∀ k, pyA B k d = none
structure ShAL (s : List Nat) (A : Hs) (W n : Nat) (l : List D) : Prop where
  ex : ∃ p, (∀ B, Fr s A B → ∀ k, n ≤ k → allSome (l.map (pyA B k)) = some p) ∧ PyData.hasDictAll p = false ∧ SmL W n p
structure ShQL (s : List Nat) (A : Hs) (W n : Nat) (l : List D) : Prop where
  ex : ∃ p, (∀ B, Fr s A B → ∀ k, n ≤ k → allSome (l.map (pyQ B k)) = some p) ∧ SmL W n p
section
variable {s : List Nat} {A : Hs} {W V n m : Nat} {d : D} {l : List D}
theorem ShA.mono (h : ShA s A W n d) (k : W ≤ V) (j : n ≤ m) : ShA s A V m d := by
  obtain ⟨p, h1, h2, h3⟩ := h.ex
  exact ⟨p, fun B f q hq => h1 B f q (by omega), h2, h3.mono k j⟩
theorem ShQ.mono (h : ShQ s A W n d) (k : W ≤ V) (j : n ≤ m) : ShQ s A V m d := by
  obtain ⟨p, h1, h3⟩ := h.ex
  exact ⟨p, fun B f q hq => h1 B f q (by omega), h3.mono k j⟩
theorem ShAL.mono (h : ShAL s A W n l) (k : W ≤ V) (j : n ≤ m) : ShAL s A V m l := by
  obtain ⟨p, h1, h2, h3⟩ := h.ex
  exact ⟨p, fun B f q hq => h1 B f q (by omega), h2, h3.mono k j⟩
theorem ShQL.mono (h : ShQL s A W n l) (k : W ≤ V) (j : n ≤ m) : ShQL s A V m l := by
  obtain ⟨p, h1, h3⟩ := h.ex
  exact ⟨p, fun B f q hq => h1 B f q (by omega), h3.mono k j⟩
theorem ShA.frame {A1 : Hs} (h : ShA s A W n d) (f : Fr s A A1) : ShA s A1 W n d := by
  obtain ⟨p, h1, h2, h3⟩ := h.ex
  exact ⟨p, fun B g => h1 B (f.trans g), h2, h3⟩
theorem ShQ.frame {A1 : Hs} (h : ShQ s A W n d) (f : Fr s A A1) : ShQ s A1 W n d := by
  obtain ⟨p, h1, h3⟩ := h.ex
  exact ⟨p, fun B g => h1 B (f.trans g), h3⟩
theorem NoA.frame {A1 : Hs} (h : NoA s A d) (f : Fr s A A1) : NoA s A1 d := fun B g => h B (f.trans g)
theorem ShA.non : ShA s A 0 0 .non := ⟨_, fun B _ k _ => by cases k <;> rfl, rfl, SmP.non⟩
theorem ShA.bl {b : Bool} : ShA s A 0 0 (.bl b) := ⟨_, fun B _ k _ => by cases k <;> rfl, rfl, SmP.bl⟩
theorem ShA.int {i : Int} (h : i.natAbs < 10 ^ 12) : ShA s A 0 0 (.int i) := ⟨_, fun B _ k _ => by cases k <;> rfl, rfl, SmP.int h⟩
theorem ShA.dS {z : String} (h : ((fS z).cps.toList.all fun c => decide (c < 16 ^ 8)) = true) (hl : (fS z).cps.size ≤ 20) : ShA s A 20 0 (dS z) := ⟨_, fun B _ k _ => by cases k <;> rfl, rfl, SmP.dS h hl⟩
theorem ShQ.non : ShQ s A 0 0 .non := ⟨_, fun B _ k _ => by cases k <;> rfl, SmP.non⟩
theorem ShQ.bl {b : Bool} : ShQ s A 0 0 (.bl b) := ⟨_, fun B _ k _ => by cases k <;> rfl, SmP.bl⟩
theorem ShQ.int {i : Int} (h : i.natAbs < 10 ^ 12) : ShQ s A 0 0 (.int i) := ⟨_, fun B _ k _ => by cases k <;> rfl, SmP.int h⟩
theorem ShQ.dS {z : String} (h : ((fS z).cps.toList.all fun c => decide (c < 16 ^ 8)) = true) (hl : (fS z).cps.size ≤ 20) : ShQ s A 20 0 (dS z) := ⟨_, fun B _ k _ => by cases k <;> rfl, SmP.dS h hl⟩
theorem ShAL.nil : ShAL s A 0 0 [] := ⟨[], fun _ _ _ _ => rfl, rfl, .nil⟩
theorem ShQL.nil : ShQL s A 0 0 [] := ⟨[], fun _ _ _ _ => rfl, .nil⟩
theorem ShAL.cons (h : ShA s A W n d) (k : ShAL s A V m l) : ShAL s A (W + 1 + V) (max n m) (d :: l) := by
  obtain ⟨p, h1, h2, h3⟩ := h.ex
  obtain ⟨q, k1, k2, k3⟩ := k.ex
  refine ⟨p :: q, fun B f j hj => ?_, by simp only [PyData.hasDictAll, h2, k2, Bool.or_self], SmL.cons h3 k3⟩
  rw [List.map_cons, h1 B f j (by omega), allSome, k1 B f j (by omega)]
  rfl
theorem ShQL.cons (h : ShQ s A W n d) (k : ShQL s A V m l) : ShQL s A (W + 1 + V) (max n m) (d :: l) := by
  obtain ⟨p, h1, h3⟩ := h.ex
  obtain ⟨q, k1, k3⟩ := k.ex
  refine ⟨p :: q, fun B f j hj => ?_, SmL.cons h3 k3⟩
  rw [List.map_cons, h1 B f j (by omega), allSome, k1 B f j (by omega)]
  rfl
theorem ShAL.tup (h : ShAL s A W n l) : ShA s A W (n + 1) (.tup l) := by
  obtain ⟨p, h1, h2, h3⟩ := h.ex
  refine ⟨.tuple p, fun B f k hk => ?_, by simpa only [PyData.hasDict] using h2, h3.tup⟩
  cases k with
  | zero => omega
  | succ k => unfold pyA; rw [h1 B f k (by omega)]; rfl
theorem ShQL.tup (h : ShQL s A W n l) : ShQ s A W (n + 1) (.tup l) := by
  obtain ⟨p, h1, h3⟩ := h.ex
  refine ⟨.tuple p, fun B f k hk => ?_, h3.tup⟩
  cases k with
  | zero => omega
  | succ k => unfold pyQ; rw [h1 B f k (by omega)]; rfl
theorem ShAL.lst {q : Nat} (h : ShAL s A W n l) (hq : A[q]? = some (.lst l)) (hn : q ∉ s) : ShA s A W (n + 1) (.ref q) := by
  obtain ⟨p, h1, h2, h3⟩ := h.ex
  refine ⟨.list p, fun B f k hk => ?_, by simpa only [PyData.hasDict] using h2, h3.lst⟩
  cases k with
  | zero => omega
  | succ k => rw [py_lst (f.get hq hn), h1 B f k (by omega)]; rfl
theorem ShAL.ints {ns : List Int} (h : ∀ n ∈ ns, n.natAbs < 10 ^ 12) : ShAL s A ns.length 0 (ns.map D.int) := by
  refine ⟨ns.map .int, fun B _ k _ => ?_, ?_, .ints h⟩
  · clear h
    induction ns with
    | nil => rfl
    | cons n r ih =>
      have e : pyA B k (.int n) = some (.int n) := by cases k <;> rfl
      rw [List.map_cons, List.map_cons, e, allSome, ih]; rfl
  · clear h
    induction ns with
    | nil => rfl
    | cons n r ih => simpa only [List.map_cons, PyData.hasDictAll, PyData.hasDict, Bool.false_or] using ih
theorem ShQL.ints {ns : List Int} (h : ∀ n ∈ ns, n.natAbs < 10 ^ 12) : ShQL s A ns.length 0 (ns.map D.int) := by
  refine ⟨ns.map .int, fun B _ k _ => ?_, .ints h⟩
  clear h
  induction ns with
  | nil => rfl
  | cons n r ih =>
    have e : pyQ B k (.int n) = some (.int n) := by cases k <;> rfl
    rw [List.map_cons, List.map_cons, e, allSome, ih]; rfl
theorem ShQ.dic0 {q : Nat} (hq : A[q]? = some (.dic false false [])) (hn : q ∉ s) : ShQ s A 0 1 (.ref q) := by
  refine ⟨.dict [], fun B f k hk => ?_, ⟨rfl, rfl, Nat.le_refl _, by simp [PyData.depth, PyData.depthKv]⟩⟩
  cases k with
  | zero => omega
  | succ k => unfold pyQ; rw [f.get hq hn]; rfl
theorem NoA.dic {q : Nat} {b lk : Bool} {kv : List (D × D)} (hq : A[q]? = some (.dic b lk kv)) (hn : q ∉ s) : NoA s A (.ref q) := fun B f k => by
  cases k with
  | zero => rfl
  | succ k => unfold pyA; rw [f.get hq hn]
theorem NoA.all {k : Nat} {B : Hs} (f : Fr s A B) (hd : d ∈ l) (h : NoA s A d) : allSome (l.map (pyA B k)) = none := by
  induction l with
  | nil => cases hd
  | cons x r ih =>
    rw [List.map_cons]
    rcases List.mem_cons.mp hd with rfl | hd
    · rw [h B f k]; rfl
    · cases pyA B k x with
      | none => rfl
      | some p => rw [allSome, ih hd]; rfl
theorem NoA.tup (hd : d ∈ l) (h : NoA s A d) : NoA s A (.tup l) := fun B f k => by
  cases k with
  | zero => rfl
  | succ k => unfold pyA; rw [h.all f hd]; rfl
theorem SmP.fits {p : PyData} (h : SmP W n p) (hW : W ≤ 1000000) : p.shown.length ≤ sizeLine := by
  have e := PyData.shown_le_bulk 13 (by decide) p h.l
  have := h.b
  have e2 : (13 + 2) * p.bulk ≤ 15 * 1000000 := Nat.mul_le_mul (by omega) (by omega)
  rw [sizeLine_eq]
  omega
theorem repr_A (h : ShA s A W n d) (hW : W ≤ 1000000) (hn : n ≤ 40) : ∃ z, ∀ B, Fr s A B → oRepr d B = .ok (.str z) B := by
  obtain ⟨p, h1, h2, h3⟩ := h.ex
  refine ⟨p.shown, fun B f => ?_⟩
  have e : pyR B d = some p := by
    unfold pyR
    rw [h1 B f 40 hn]
    simp only [h2, Bool.false_eq_true, if_false]
  have d1 := h3.d
  unfold oRepr
  rw [e]
  simp only
  rw [if_pos ⟨h3.s, by omega, h3.fits hW⟩]
theorem repr_Q (h : ShQ s A W n d) (k : NoA s A d) (hW : W ≤ 1000000) (hn : n ≤ 40) : ∃ z, ∀ B, Fr s A B → oRepr d B = .ok (.str z) B := by
  obtain ⟨p, h1, h3⟩ := h.ex
  refine ⟨p.shown, fun B f => ?_⟩
  have e : pyR B d = some p := by
    unfold pyR
    rw [k B f 40]
    simp only [h1 B f 40 hn]
  have d1 := h3.d
  unfold oRepr
  rw [e]
  simp only
  rw [if_pos ⟨h3.s, by omega, h3.fits hW⟩]
theorem repr_QL {q : Nat} (hq : A[q]? = some (.lst l)) (hns : q ∉ s) (h : ShQL s A W n l) (hd : d ∈ l) (k : NoA s A d) (hW : W ≤ 1000000) (hn : n ≤ 39) : ∃ z, ∀ B, Fr s A B → oRepr (.ref q) B = .ok (.str z) B := by
  obtain ⟨p, h1, h3⟩ := h.ex
  refine ⟨(PyData.list p).shown, fun B f => ?_⟩
  have hq' := f.get hq hns
  have e : pyR B (.ref q) = some (.list p) := by
    have e1 : pyA B 40 (.ref q) = none := by
      rw [py_lst hq', k.all f hd]; rfl
    have e2 : pyQ B 40 (.ref q) = none := by unfold pyQ; rw [hq']
    unfold pyR
    rw [e1]
    simp only [e2, hq', h1 B f 40 (by omega)]
    rfl
  have h4 := h3.lst
  have d1 := h4.d
  unfold oRepr
  rw [e]
  simp only
  rw [if_pos ⟨h4.s, by omega, h4.fits hW⟩]
end

/-! what is no line -/
def words : List String := ["wrote", "read", "stands", "opened"]
theorem Ev.ww (e : Ev) : e.w ∈ words := e.w_ne
section
variable {B : Hs} {q : Nat} {l : List D} {kv : List (D × D)} {b : Bool}
/-- a list or a dict in the heap -/
def LD (B : Hs) (q : Nat) : Prop := (∃ l, B[q]? = some (.lst l)) ∨ ∃ kv, B[q]? = some (.dic false false kv)
theorem LD.str (h : LD B q) : oIsi os_ xs_ tb_ (.ref q) (.ty "str") B = .ok (.bl false) B := by
  rcases h with ⟨l, h⟩ | ⟨kv, h⟩ <;> (unfold oIsi isiD kdOf; simp only [h]; rfl)
theorem LD.tup (h : LD B q) : oIsi os_ xs_ tb_ (.ref q) (.ty "tuple") B = .ok (.bl false) B := by
  rcases h with ⟨l, h⟩ | ⟨kv, h⟩ <;> (unfold oIsi isiD kdOf; simp only [h]; rfl)
theorem LD.int (h : LD B q) : oIsi os_ xs_ tb_ (.ref q) (.ty "int") B = .ok (.bl false) B := by
  rcases h with ⟨l, h⟩ | ⟨kv, h⟩ <;> (unfold oIsi isiD kdOf; simp only [h]; rfl)
theorem ib_ref {hi : Int} (h : LD B q) : F_is_between [.ref q, .int hi] B = .ok (.bl false) B := by
  have e := h.int
  unfold F_is_between
  simp_arith [e]
theorem ib_no {hi : Int} {d : D} (h : d = .non ∨ d = .bl true ∨ d = dS "open") : F_is_between [d, .int hi] B = .ok (.bl false) B := by
  unfold F_is_between
  rcases h with rfl | rfl | rfl
  · simp_arith []
  · simp_arith []
  · simp_arith [show oIsi os_ xs_ tb_ (dS "open") (.ty "int") B = .ok (.bl false) B from rfl]
theorem ib_out {p hi : Int} (h : p < 0 ∨ hi < p) : F_is_between [.int p, .int hi] B = .ok (.bl false) B := by
  rw [is_between_ok]
  rcases h with h | h
  · rw [decide_eq_false (by omega)]; rfl
  · rw [decide_eq_false (by omega : ¬ p ≤ hi), Bool.and_false]
theorem idt_no {d : D} (h : oIsi os_ xs_ tb_ d (.ty "tuple") B = .ok (.bl false) B) : F_is_data [d] B = .ok (.bl false) B := by
  unfold F_is_data
  simp_arith [h]
theorem idt_long {n : Nat} {d : D} (h : 1000 < n) : F_is_data [.tup (List.replicate n d)] B = .ok (.bl false) B := by
  have h1 : (1000 : Int) < (n : Int) := by omega
  unfold F_is_data
  simp_arith [List.length_replicate, h1]
theorem iw_out {p : D} (h : p = .int 256 ∨ p = .bl true) : F_is_whole [p, .int 0, .int 255] B = .ok (.bl false) B := by
  rcases h with rfl | rfl
  · rw [is_whole_ok]; rfl
  · unfold F_is_whole
    simp_arith []
theorem idt_one {p : D} (h : p = .int 256 ∨ p = .bl true) : Rk (F_is_data [.tup [p]] B) fun v A1 => v = .bl false ∧ Fr [] B A1 := by
  have key : lcL (gN 1) tYe (eCall0 F_is_whole (aCons (eVar 1) (aCons (eC (.int 0)) (aCons (eC (.int 255)) aNil)))) tt [some (.tup [p]), none] [p] [] B = .ok (([p].filter fun _ => true).map fun _ => D.bl false) B := by
    refine lc_go _ _ trivial (by simp) fun d hd => ?_
    rw [List.mem_singleton] at hd
    subst hd
    have e := iw_out (B := B) h
    show Got _ _
    simp_arith [e]
    try exact fun _ => trivial
  have al : boolsOf [D.bl false] = some [false] := rfl
  unfold F_is_data
  rw [show ([p].filter fun _ => true).map (fun _ => D.bl false) = [D.bl false] from rfl] at key
  simp_arith [key, al]
  exact ⟨rfl, .push⟩
theorem in_w_wr : inl_ B (dS "wrote") [dS "wrote", dS "read"] false = .ok (.bl true) B := rfl
theorem in_w_rd : inl_ B (dS "read") [dS "wrote", dS "read"] false = .ok (.bl true) B := rfl
theorem in_w_st : inl_ B (dS "stands") [dS "wrote", dS "read"] false = .ok (.bl false) B := rfl
theorem in_w_op : inl_ B (dS "opened") [dS "wrote", dS "read"] false = .ok (.bl false) B := rfl
/-- nothing that can be had in the last place -/
def NoM (B : Hs) (w : String) (m : D) : Prop := Rk (F_is_more [dS w, m] B) fun v A1 => v = .bl false ∧ Fr [] B A1
theorem nm_ref {w : String} (hw : w ∈ words) (h : LD B q) : NoM B w (.ref q) := by
  have e1 := idt_no h.tup
  have e2 : F_is_between [.ref q, .int 4294967295] B = _ := ib_ref h
  have e3 := h.str
  unfold NoM F_is_more
  simp only [words, List.mem_cons, List.not_mem_nil, or_false] at hw
  rcases hw with rfl | rfl | rfl | rfl
  · simp_arith [in_w_wr, e1]; exact .refl
  · simp_arith [in_w_rd, e1]; exact .refl
  · simp_arith [in_w_st, e3]; exact .refl
  · simp_arith [in_w_op, e2]; exact .refl
theorem nm_data {w : String} {m : D} (hw : w = "wrote" ∨ w = "read") (h : Rk (F_is_data [m] B) fun v A1 => v = .bl false ∧ Fr [] B A1) : NoM B w m := by
  obtain ⟨_, A1, e, rfl, f⟩ := h.ex
  unfold NoM F_is_more
  rcases hw with rfl | rfl
  · simp_arith [in_w_wr, e]; exact f
  · simp_arith [in_w_rd, e]; exact f
theorem nm_nil {w : String} (hw : w = "wrote" ∨ w = "read") : NoM B w (.tup []) := by
  obtain ⟨A1, e, f⟩ := is_data_ok (A := B) (ds := []) (by simp) (by simp)
  simp only [List.map_nil] at e
  unfold NoM F_is_more
  rcases hw with rfl | rfl
  · simp_arith [in_w_wr, e]; exact ⟨rfl, f⟩
  · simp_arith [in_w_rd, e]; exact ⟨rfl, f⟩
theorem nm_op {m : D} (h : F_is_between [m, .int 4294967295] B = .ok (.bl false) B) : NoM B "opened" m := by
  unfold NoM F_is_more
  simp_arith [in_w_op, h]
  exact .refl
theorem nm_st {m : D} (h : m = dS "shut" ∨ m = .int 5 ∨ m = .non) : NoM B "stands" m := by
  have k : oIn (dS "shut") (.wt [dS "calls", dS "answers", dS "open", dS "ends", dS "left", dS "rests", dS "closed", dS "cut", dS "gone"]) B = .ok (.bl false) B := rfl
  unfold NoM F_is_more
  rcases h with rfl | rfl | rfl
  · simp_arith [in_w_st, isi_ss, k]; exact .refl
  · simp_arith [in_w_st]; exact .refl
  · simp_arith [in_w_st]; exact .refl
/-- no line -/
def NL (B : Hs) (d : D) : Prop := Rk (F_is_line [d] B) fun v A1 => v = .bl false ∧ Fr [] B A1
theorem nl_tup {d : D} (h : oIsi os_ xs_ tb_ d (.ty "tuple") B = .ok (.bl false) B) : NL B d := by
  unfold NL F_is_line
  simp_arith [h]
  exact .refl
theorem nl_len (h : l.length ≠ 6) : NL B (.tup l) := by
  have h1 : ¬ (l.length : Int) = 6 := by omega
  unfold NL F_is_line
  simp_arith [h1]
  exact .refl
theorem nl_word {w t p k f m : D} (h : oIsi os_ xs_ tb_ w (.ty "str") B = .ok (.bl false) B) : NL B (.tup [w, t, p, k, f, m]) := by
  unfold NL F_is_line
  simp_arith [h]
  exact .refl
theorem nl_told {t p k f m : D} : NL B (.tup [dS "told", t, p, k, f, m]) := by
  have i1 : inl_ B (dS "told") [dS "wrote", dS "read", dS "stands", dS "opened"] true = .ok (.bl true) B := rfl
  unfold NL F_is_line
  simp_arith [isi_ss, i1]
  exact .refl
theorem in_wN {w : String} (hw : w ∈ words) : inl_ B (dS w) [dS "wrote", dS "read", dS "stands", dS "opened"] true = .ok (.bl false) B := in_wordsN (l := ["wrote", "read", "stands", "opened"]) hw
theorem nl_more {w : String} {t p k f m : D} (hw : w ∈ words) (h : NoM B w m) : NL B (.tup [dS w, t, p, k, f, m]) := by
  have i1 := in_wN (B := B) hw
  obtain ⟨_, A1, e, rfl, f1⟩ := Rk.ex h
  unfold NL F_is_line
  simp_arith [isi_ss, i1, e]
  exact f1
theorem nl_at {x : Ev} {t p k f : D} (hx : EvOk x) (h : t = .int (-1) ∨ t = .bl true) : NL B (.tup [dS x.w, t, p, k, f, x.m]) := by
  have i1 := in_wN (B := B) x.ww
  obtain ⟨_, A1, e, rfl, f1⟩ := (is_more_ok (A := B) hx).ex
  unfold NL F_is_line
  rcases h with rfl | rfl
  · simp_arith [isi_ss, i1, e]; exact f1
  · simp_arith [isi_ss, i1, e]; exact f1
theorem nl_keyL {x : Ev} {t : Int} {p f : D} (hx : EvOk x) (ht : 0 ≤ t) (h : LD B q) : NL B (.tup [dS x.w, .int t, p, .ref q, f, x.m]) := by
  have i1 := in_wN (B := B) x.ww
  obtain ⟨_, A1, e, rfl, f1⟩ := (is_more_ok (A := B) hx).ex
  have h1 : LD A1 q := by
    rcases h with ⟨l, h⟩ | ⟨kv, h⟩
    · exact .inl ⟨l, f1.get h (by simp)⟩
    · exact .inr ⟨kv, f1.get h (by simp)⟩
  have e2 := h1.tup
  have nt : ¬ t < 0 := by omega
  unfold NL F_is_line
  simp_arith [isi_ss, i1, e, nt, e2]
  exact f1
theorem nl_key2 {x : Ev} {t : Int} {p f a c : D} (hx : EvOk x) (ht : 0 ≤ t) : NL B (.tup [dS x.w, .int t, p, .tup [a, c], f, x.m]) := by
  have i1 := in_wN (B := B) x.ww
  obtain ⟨_, A1, e, rfl, f1⟩ := (is_more_ok (A := B) hx).ex
  have nt : ¬ t < 0 := by omega
  unfold NL F_is_line
  simp_arith [isi_ss, i1, e, nt]
  exact f1
theorem key_go {x1 x2 x3 x4 x5 x6 x7 : Option D} {a b c : Int} {A1 : Hs} : lcL (gN 7) tYe (eCall0 F_is_between (aCons (eVar 7) (aCons (eC (.int 255)) aNil))) tt [x1, x2, x3, x4, x5, x6, x7, none] [.int a, .int b, .int c] [] A1 = .ok ([a, b, c].map fun n => D.bl (decide (0 ≤ n) && decide (n ≤ 255))) A1 := by
  have key := lc_go (A := A1) (gd := tt) (g := gN 7) (t := tYe) (a := eCall0 F_is_between (aCons (eVar 7) (aCons (eC (.int 255)) aNil))) (env := [x1, x2, x3, x4, x5, x6, x7, none]) (ds := [D.int a, .int b, .int c]) (fun _ => true) (fun d => match d with | .int n => D.bl (decide (0 ≤ n) && decide (n ≤ 255)) | _ => .non) trivial (by simp) (fun d hd => by
    have : ∃ n : Int, d = .int n := by
      simp only [List.mem_cons, List.not_mem_nil, or_false] at hd
      rcases hd with rfl | rfl | rfl <;> exact ⟨_, rfl⟩
    obtain ⟨n, rfl⟩ := this
    have e := is_between_ok (A := A1) (p := n) (hi := 255)
    show Got _ _
    simp_arith [e]
    try exact fun _ => trivial)
  rw [key]
  rfl
theorem nl_key3 {x : Ev} {t : Int} {p f : D} (hx : EvOk x) (ht : 0 ≤ t) : NL B (.tup [dS x.w, .int t, p, .tup [.int 1, .int 2, .int 256], f, x.m]) := by
  have i1 := in_wN (B := B) x.ww
  obtain ⟨_, A1, e, rfl, f1⟩ := (is_more_ok (A := B) hx).ex
  have nt : ¬ t < 0 := by omega
  have key := key_go (A1 := A1) (a := 1) (b := 2) (c := 256) (x1 := some (.tup [dS x.w, .int t, p, .tup [.int 1, .int 2, .int 256], f, x.m])) (x2 := some (dS x.w)) (x3 := some (.int t)) (x4 := some p) (x5 := some (.tup [.int 1, .int 2, .int 256])) (x6 := some f) (x7 := some x.m)
  rw [show ([1, 2, 256] : List Int).map (fun n => D.bl (decide (0 ≤ n) && decide (n ≤ 255))) = [D.bl true, .bl true, .bl false] from rfl] at key
  have al : boolsOf [D.bl true, .bl true, .bl false] = some [true, true, false] := rfl
  unfold NL F_is_line
  simp_arith [isi_ss, i1, e, nt, key, al]
  exact f1.then_push
theorem nl_last {x : Ev} {t a b c : Int} {p f : D} (hx : EvOk x) (ht : 0 ≤ t) (ha : 0 ≤ a ∧ a ≤ 255) (hb : 0 ≤ b ∧ b ≤ 255) (hc : 0 ≤ c ∧ c ≤ 255)
    (h : (∀ C, Fr [] B C → F_is_between [p, .int 255] C = .ok (.bl false) C) ∨ ((∀ C, F_is_between [p, .int 255] C = .ok (.bl true) C) ∧ ∀ C, F_is_between [f, .int 4294967295] C = .ok (.bl false) C)) : NL B (.tup [dS x.w, .int t, p, .tup [.int a, .int b, .int c], f, x.m]) := by
  have i1 := in_wN (B := B) x.ww
  obtain ⟨_, A1, e, rfl, f1⟩ := (is_more_ok (A := B) hx).ex
  have nt : ¬ t < 0 := by omega
  have key := key_go (A1 := A1) (a := a) (b := b) (c := c) (x1 := some (.tup [dS x.w, .int t, p, .tup [.int a, .int b, .int c], f, x.m])) (x2 := some (dS x.w)) (x3 := some (.int t)) (x4 := some p) (x5 := some (.tup [.int a, .int b, .int c])) (x6 := some f) (x7 := some x.m)
  simp only [List.map_cons, List.map_nil, decide_eq_true ha.1, decide_eq_true ha.2, decide_eq_true hb.1, decide_eq_true hb.2, decide_eq_true hc.1, decide_eq_true hc.2, Bool.and_self] at key
  have al : boolsOf [D.bl true, .bl true, .bl true] = some [true, true, true] := rfl
  rcases h with h | ⟨h1, h2⟩
  · have h' := h (A1 ++ [O.lst [D.bl true, .bl true, .bl true]]) f1.then_push
    unfold NL F_is_line
    simp_arith [isi_ss, i1, e, nt, key, al, h']
    exact f1.then_push
  · unfold NL F_is_line
    simp_arith [isi_ss, i1, e, nt, key, al, h1, h2]
    exact f1.then_push
end

noncomputable def bnU : S := (sRet (eCall F_l_pick (aCons (eVar 0) (aCons (eOp oAdd (eVar 8) (eOp oMul (eLst (aCons (eTup (aCons (eVar 2) (aCons (eVar 3) (aCons (eVar 4) (aCons (eVar 5) (aCons (eVar 6) (aCons (eVar 10) aNil))))))) aNil)) (eC (.int 5)))) aNil))))
noncomputable def bnT : S := (sSeq (sSet 9 (eDisp (dCons (eC (dS "stands")) (eLst (aCons (eC (dS "shut")) (aCons (eC (.int 5)) (aCons (eC .non) aNil)))) (dCons (eC (dS "opened")) (eLst (aCons (eUn oNeg (eC (.int 1))) (aCons (eOp oPow (eC (.int 2)) (eC (.int 32))) (aCons (eC (.bl true)) (aCons (eC .non) (aCons (eC (dS "open")) aNil)))))) dNil)))) (sSeq (sSet 10 (eCall F_l_pick (aCons (eVar 0) (aCons (eGet2 (eVar 9) (eVar 2) (eLst (aCons (eTup aNil) (aCons (eTup (aCons (eC (.int 256)) aNil)) (aCons (eLst (aCons (eC (.int 1)) aNil)) (aCons (eC (dS "a")) (aCons (eTup (aCons (eC (.bl true)) aNil)) (aCons (eC (.int 5)) (aCons (eOp oMul (eTup (aCons (eC (.int 1)) aNil)) (eC (.int 1001))) aNil))))))))) aNil)))) bnU))
theorem bent_eq : F_l_line_bent = mkFn 2 11 (sSeq (sAsg (eVar 1) (gT [(gN 2), (gN 3), (gN 4), (gN 5), (gN 6), (gN 7)])) (sSeq (sSet 8 (eLst (aCons (eSl oSl (eVar 1) oNo (oSo (eC (.int 5)))) (aCons (eCB (c1 oList) (aCons (eVar 1) aNil)) (aCons (eOp oAdd (eVar 1) (eTup (aCons (eC (.int 1)) aNil))) (aCons (eC .non) (aCons (eOp oAdd (eTup (aCons (eC (dS "told")) aNil)) (eSl oSl (eVar 1) (oSo (eC (.int 1))) oNo)) (aCons (eOp oAdd (eTup (aCons (eC (.int 5)) aNil)) (eSl oSl (eVar 1) (oSo (eC (.int 1))) oNo)) (aCons (eOp oAdd (eTup (aCons (eVar 2) (aCons (eUn oNeg (eC (.int 1))) aNil))) (eSl oSl (eVar 1) (oSo (eC (.int 2))) oNo)) aNil))))))))) (sSeq (sSet 8 (eOp oAdd (eVar 8) (eLst (aCons (eOp oAdd (eTup (aCons (eLst (aCons (eVar 2) aNil)) aNil)) (eSl oSl (eVar 1) (oSo (eC (.int 1))) oNo)) (aCons (eOp oAdd (eTup (aCons (eDNew false) aNil)) (eSl oSl (eVar 1) (oSo (eC (.int 1))) oNo)) (aCons (eOp oAdd (eSl oSl (eVar 1) oNo (oSo (eC (.int 5)))) (eTup (aCons (eDNew false) aNil))) (aCons (eOp oAdd (eSl oSl (eVar 1) oNo (oSo (eC (.int 5)))) (eTup (aCons (eLst aNil) aNil))) aNil))))))) (sSeq (sDrop (eBL oAppend (eVar 8) (aCons (eOp oAdd (eOp oAdd (eSl oSl (eVar 1) oNo (oSo (eC (.int 2)))) (eTup (aCons (eLst aNil) aNil))) (eSl oSl (eVar 1) (oSo (eC (.int 3))) oNo)) aNil))) (sSeq (sSet 8 (eOp oAdd (eVar 8) (eLst (aCons (eOp oAdd (eTup (aCons (eVar 2) (aCons (eC (.bl true)) aNil))) (eSl oSl (eVar 1) (oSo (eC (.int 2))) oNo)) (aCons (eOp oAdd (eTup (aCons (eVar 2) (aCons (eVar 3) (aCons (eC (.int 256)) aNil)))) (eSl oSl (eVar 1) (oSo (eC (.int 3))) oNo)) (aCons (eTup (aCons (eVar 2) (aCons (eVar 3) (aCons (eVar 4) (aCons (eSl oSl (eVar 5) oNo (oSo (eC (.int 2)))) (aCons (eVar 6) (aCons (eVar 7) aNil))))))) aNil)))))) (sSeq (sSet 8 (eOp oAdd (eVar 8) (eLst (aCons (eTup (aCons (eVar 2) (aCons (eVar 3) (aCons (eVar 4) (aCons (eCB (c1 oList) (aCons (eVar 5) aNil)) (aCons (eVar 6) (aCons (eVar 7) aNil))))))) (aCons (eTup (aCons (eVar 2) (aCons (eVar 3) (aCons (eVar 4) (aCons (eVar 5) (aCons (eOp oPow (eC (.int 2)) (eC (.int 32))) (aCons (eVar 7) aNil))))))) aNil))))) (sSeq (sSet 8 (eOp oAdd (eVar 8) (eLst (aCons (eTup (aCons (eVar 2) (aCons (eVar 3) (aCons (eVar 4) (aCons (eTup (aCons (eC (.int 1)) (aCons (eC (.int 2)) (aCons (eC (.int 256)) aNil)))) (aCons (eVar 6) (aCons (eVar 7) aNil))))))) (aCons (eTup (aCons (eVar 2) (aCons (eVar 3) (aCons (eVar 4) (aCons (eVar 5) (aCons (eUn oNeg (eC (.int 1))) (aCons (eVar 7) aNil))))))) aNil))))) bnT))))))) := rfl
/-! lines bent -/
theorem ShAL.of {s : List Nat} {A : Hs} {W n : Nat} : ∀ {l : List D}, (∀ d ∈ l, ShA s A W n d) → ShAL s A (l.length * (W + 1)) n l
  | [], _ => by simpa using ShAL.nil.mono (Nat.le_refl _) (Nat.zero_le n)
  | d :: r, h => by
    have := ShAL.cons (h d List.mem_cons_self) (ShAL.of (l := r) fun x hx => h x (List.mem_cons_of_mem _ hx))
    refine this.mono ?_ (by simp)
    rw [List.length_cons, Nat.add_mul, Nat.one_mul]
    omega
theorem ShQL.of {s : List Nat} {A : Hs} {W n : Nat} : ∀ {l : List D}, (∀ d ∈ l, ShQ s A W n d) → ShQL s A (l.length * (W + 1)) n l
  | [], _ => by simpa using ShQL.nil.mono (Nat.le_refl _) (Nat.zero_le n)
  | d :: r, h => by
    have := ShQL.cons (h d List.mem_cons_self) (ShQL.of (l := r) fun x hx => h x (List.mem_cons_of_mem _ hx))
    refine this.mono ?_ (by simp)
    rw [List.length_cons, Nat.add_mul, Nat.one_mul]
    omega
/-- a part of a line, shown -/
abbrev SA1 (s : List Nat) (A : Hs) (d : D) : Prop := ShA s A 1100 4 d
abbrev SQ1 (s : List Nat) (A : Hs) (d : D) : Prop := ShQ s A 1100 4 d
theorem SA1.tup {s : List Nat} {A : Hs} {l : List D} (h : ∀ d ∈ l, SA1 s A d) (hl : l.length ≤ 7) : ShA s A 9000 6 (.tup l) :=
  (ShAL.of h).tup.mono (Nat.le_trans (Nat.mul_le_mul_right 1101 hl) (by decide)) (by decide)
theorem SQ1.tup {s : List Nat} {A : Hs} {l : List D} (h : ∀ d ∈ l, SQ1 s A d) (hl : l.length ≤ 7) : ShQ s A 9000 6 (.tup l) :=
  (ShQL.of h).tup.mono (Nat.le_trans (Nat.mul_le_mul_right 1101 hl) (by decide)) (by decide)
/-- no line, and shown alike at all times -/
structure Bnt (s : List Nat) (A : Hs) (v : D) : Prop where
  n : ∀ B, Fr s A B → NL B v
  r : ShA s A 9000 6 v ∨ (NoA s A v ∧ ShQ s A 9000 6 v)
theorem Bnt.frame {s : List Nat} {A B : Hs} {v : D} (h : Bnt s A v) (f : Fr s A B) : Bnt s B v :=
  ⟨fun C g => h.n C (f.trans g), h.r.imp (fun k => k.frame f) fun k => ⟨k.1.frame f, k.2.frame f⟩⟩
/-- the parts of a line: what they show -/
structure Pts (s : List Nat) (A : Hs) (x : Ln) : Prop where
  w : SA1 s A (dS x.e.w)
  t : SA1 s A (.int x.t)
  p : SA1 s A (.int x.k.p)
  k : SA1 s A (.tup [.int x.k.a, .int x.k.b, .int x.k.c])
  f : SA1 s A (.int x.k.f)
  m : SA1 s A x.e.m
  w' : SQ1 s A (dS x.e.w)
  t' : SQ1 s A (.int x.t)
  p' : SQ1 s A (.int x.k.p)
  k' : SQ1 s A (.tup [.int x.k.a, .int x.k.b, .int x.k.c])
  f' : SQ1 s A (.int x.k.f)
  m' : SQ1 s A x.e.m
theorem w_short : ∀ z ∈ words ++ stands, ((fS z).cps.toList.all fun c => decide (c < 16 ^ 8)) = true ∧ (fS z).cps.size ≤ 20 := by decide +kernel
structure LnS (x : Ln) : Prop where
  t : x.t ≤ 1000
  l : ∀ l, x.e = .wr l ∨ x.e = .rd l → l.length ≤ 3
theorem Pts.of {s : List Nat} {A : Hs} {x : Ln} (h : LnOk x) (z : LnS x) : Pts s A x := by
  have nat : ∀ {n : Int}, 0 ≤ n → n ≤ 4294967295 → n.natAbs < 10 ^ 12 := fun h1 h2 => by omega
  obtain ⟨ht, ⟨hp, ha, hb, hc, hf⟩, he⟩ := h
  have ht2 := z.t
  have ks : ∀ n ∈ [x.k.a, x.k.b, x.k.c], n.natAbs < 10 ^ 12 := by
    intro n hn
    simp only [List.mem_cons, List.not_mem_nil, or_false] at hn
    rcases hn with rfl | rfl | rfl <;> omega
  have kA : ShAL s A 3 0 [.int x.k.a, .int x.k.b, .int x.k.c] := ShAL.ints ks
  have kQ : ShQL s A 3 0 [.int x.k.a, .int x.k.b, .int x.k.c] := ShQL.ints ks
  have ws := w_short x.e.w (List.mem_append_left _ x.e.ww)
  have ms : SA1 s A x.e.m ∧ SQ1 s A x.e.m := by
    have dat : ∀ {l : List Int}, (∀ b ∈ l, 0 ≤ b ∧ b ≤ 255) → l.length ≤ 3 → SA1 s A (.tup (l.map D.int)) ∧ SQ1 s A (.tup (l.map D.int)) := fun {l} hb hl => by
      have hn : ∀ n ∈ l, n.natAbs < 10 ^ 12 := fun n hn => nat (hb n hn).1 (by have := (hb n hn).2; omega)
      exact ⟨(ShAL.ints hn).tup.mono (by omega) (by decide), (ShQL.ints hn).tup.mono (by omega) (by decide)⟩
    have zl := z.l
    cases e : x.e with
    | wr l => rw [e] at he; exact dat he.1 (zl l (.inl e))
    | rd l => rw [e] at he; exact dat he.1 (zl l (.inr e))
    | op o => rw [e] at he; exact ⟨(ShA.int (nat he.1 he.2)).mono (by decide) (by decide), (ShQ.int (nat he.1 he.2)).mono (by decide) (by decide)⟩
    | st y =>
      rw [e] at he
      have := w_short y (List.mem_append_right _ he)
      exact ⟨(ShA.dS this.1 this.2).mono (by decide) (by decide), (ShQ.dS this.1 this.2).mono (by decide) (by decide)⟩
  exact ⟨(ShA.dS ws.1 ws.2).mono (by decide) (by decide), (ShA.int (nat ht (by omega))).mono (by decide) (by decide), (ShA.int (nat hp.1 (by omega))).mono (by decide) (by decide), kA.tup.mono (by decide) (by decide), (ShA.int (nat hf.1 hf.2)).mono (by decide) (by decide), ms.1,
    (ShQ.dS ws.1 ws.2).mono (by decide) (by decide), (ShQ.int (nat ht (by omega))).mono (by decide) (by decide), (ShQ.int (nat hp.1 (by omega))).mono (by decide) (by decide), kQ.tup.mono (by decide) (by decide), (ShQ.int (nat hf.1 hf.2)).mono (by decide) (by decide), ms.2⟩
theorem Drw.rk {A : Hs} {i : Nat} {l : List D} {q : Nat} (h : Drw A i) (hq : A[q]? = some (.lst l)) (hn : q ≠ i) (hl : 0 < l.length) (hl2 : l.length ≤ 100000) : Rk (F_l_pick [.ref i, .ref q] A) fun x A1 => x ∈ l ∧ Drw A1 i ∧ Fr [i] A A1 := by
  obtain ⟨x, A1, hx, e, d1, f⟩ := h.rg hq hn hl hl2
  rw [e]
  exact ⟨hx, d1, f⟩
theorem oMul_5 {A : Hs} {r : Nat} {d : D} (h : A[r]? = some (.lst [d])) : oMul (.ref r) (.int 5) A = .ok (.ref A.length) (A ++ [.lst [d, d, d, d, d]]) := by
  unfold oMul
  simp only [h]
  rfl
theorem gA {A L : Hs} {k : Nat} : (A ++ L)[A.length + k]? = L[k]? := by
  rw [List.getElem?_append_right (by omega)]
  congr 1
  omega
theorem set_app {A L : Hs} {k : Nat} {o : O} : (A ++ L).set (A.length + k) o = A ++ L.set k o := by
  refine (List.set_append_right (s := (A : List O)) (t := L) (A.length + k) o (by omega)).trans ?_
  rw [show A.length + k - A.length = k from by omega]
section
variable {A : Hs} {i : Nat} {x : Ln}
theorem bnU_ok {B : Hs} {q : Nat} {L : List D} {m : D} {o9 : Option D} (d : Drw B i) (hq : B[q]? = some (.lst L)) (hqi : q ≠ i) (hL : ∀ v ∈ L, Bnt [i] B v) (hl : L.length ≤ 1000) (hm : Bnt [i] B (.tup [dS x.e.w, .int x.t, .int x.k.p, .tup [.int x.k.a, .int x.k.b, .int x.k.c], .int x.k.f, m])) :
    Rk (finR (bnU [some (.ref i), some x.d, some (dS x.e.w), some (.int x.t), some (.int x.k.p), some (.tup [.int x.k.a, .int x.k.b, .int x.k.c]), some (.int x.k.f), some x.e.m, some (.ref q), o9, some m] B)) fun v A1 => Bnt [i] A1 v ∧ Drw A1 i ∧ Fr [i] B A1 := by
  have hi := d.lt
  obtain ⟨Z, hZ⟩ : ∃ Z, Z = D.tup [dS x.e.w, .int x.t, .int x.k.p, .tup [.int x.k.a, .int x.k.b, .int x.k.c], .int x.k.f, m] := ⟨_, rfl⟩
  rw [← hZ] at hm
  unfold bnU
  have e5 := oMul_5 (A := B ++ [O.lst [Z]]) (r := B.length) (d := Z) zc5
  have hq2 : (B ++ [O.lst [Z]] ++ [O.lst [Z, Z, Z, Z, Z]])[q]? = some (.lst L) := get_push (get_push hq)
  simp_arith [hq, ← hZ, e5, hq2]
  have d1 : Drw (B ++ [O.lst [Z]] ++ [O.lst [Z, Z, Z, Z, Z]] ++ [O.lst (L ++ [Z, Z, Z, Z, Z])]) i := d.pushed.pushed.pushed
  refine Rk.call (fun r => Rk (finR (ofE _ r _)) _) (Drw.rk (q := B.length + 1 + 1) (l := L ++ [Z, Z, Z, Z, Z]) d1 (by rw [List.getElem?_append_right (by simp)]; simp) (by simp; omega) (by simp) (by simp; omega)) ?_
  rintro v A1 ⟨hv, d2, f2⟩
  have f1 : Fr [i] B A1 := Fr.push.trans (Fr.push.trans (Fr.push.trans f2))
  refine ⟨?_, d2, f1⟩
  rcases List.mem_append.mp hv with h | h
  · exact (hL v h).frame f1
  · have : v = Z := by simpa using h
    rw [this]
    exact hm.frame f1
end

/-! a line bent: the last thing drawn, then one of all -/
section
variable {A : Hs} {i : Nat} {x : Ln}
theorem LD.frame {s : List Nat} {B C : Hs} {q : Nat} (h : LD B q) (f : Fr s B C) (hq : q ∉ s) : LD C q := by
  rcases h with ⟨l, h⟩ | ⟨kv, h⟩
  · exact .inl ⟨l, f.get h hq⟩
  · exact .inr ⟨kv, f.get h hq⟩
theorem bnt_more {B : Hs} {m : D} (hx : LnOk x) (pt : Pts [i] B x) (h : ∀ C, Fr [i] B C → NoM C x.e.w m) (hm : SA1 [i] B m) : Bnt [i] B (.tup [dS x.e.w, .int x.t, .int x.k.p, .tup [.int x.k.a, .int x.k.b, .int x.k.c], .int x.k.f, m]) :=
  ⟨fun C f => nl_more x.e.ww (h C f), .inl (SA1.tup (by
    intro d hd
    simp only [List.mem_cons, List.not_mem_nil, or_false] at hd
    rcases hd with rfl | rfl | rfl | rfl | rfl | rfl
    · exact pt.w
    · exact pt.t
    · exact pt.p
    · exact pt.k
    · exact pt.f
    · exact hm) (by simp))⟩
theorem mul1001 {Z : Hs} : oMul (.tup [.int 1]) (.int 1001) Z = .ok (.tup (List.replicate 1001 (.int 1))) Z := by
  rw [z6j ⟨by simp, by decide, by decide⟩]
  show RE.ok (D.tup (List.replicate 1001 [D.int 1]).flatten) Z = _
  rw [List.flatten_replicate_singleton]
theorem long_s {s : List Nat} {B : Hs} : SA1 s B (.tup (List.replicate 1001 (.int 1))) := by
  have h : ShAL s B (List.replicate 1001 (1 : Int)).length 0 ((List.replicate 1001 (1 : Int)).map D.int) := ShAL.ints (by
    intro n hn
    rw [(List.mem_replicate.mp hn).2]
    decide)
  rw [List.map_replicate, List.length_replicate] at h
  exact h.tup.mono (by decide) (by decide)
theorem bn_fin {B C : Hs} {q Q : Nat} {L l : List D} {o9 o9' : Option D} (f : Fr [i] B C) (dC : Drw C i) (hx : LnOk x) (pt : Pts [i] C x) (hq : C[q]? = some (.lst L)) (hqi : q ≠ i) (hL : ∀ v ∈ L, Bnt [i] C v) (hl : L.length ≤ 1000)
    (hQ : C[Q]? = some (.lst l)) (hQi : Q ≠ i) (hl0 : 0 < l.length) (hl1 : l.length ≤ 100) (hm : ∀ m ∈ l, (∀ D, Fr [i] C D → NoM D x.e.w m) ∧ SA1 [i] C m) :
    Rk (finR (seqR (ofE [some (.ref i), some x.d, some (dS x.e.w), some (.int x.t), some (.int x.k.p), some (.tup [.int x.k.a, .int x.k.b, .int x.k.c]), some (.int x.k.f), some x.e.m, some (.ref q), o9, none] (F_l_pick [.ref i, .ref Q] C) fun d A1 => RS.nx [some (.ref i), some x.d, some (dS x.e.w), some (.int x.t), some (.int x.k.p), some (.tup [.int x.k.a, .int x.k.b, .int x.k.c]), some (.int x.k.f), some x.e.m, some (.ref q), o9', some d] A1) bnU)) fun v A1 => Bnt [i] A1 v ∧ Drw A1 i ∧ Fr [i] B A1 := by
  refine Rk.call (fun r => Rk (finR (seqR (ofE _ r _) _)) _) (Drw.rk dC hQ hQi hl0 (by omega)) ?_
  rintro m A1 ⟨h1, d1, f1⟩
  obtain ⟨m1, m2⟩ := hm m h1
  have hq1 := f1.get hq (by simpa using hqi)
  exact (bnU_ok d1 hq1 hqi (fun v hv => (hL v hv).frame f1) hl ((bnt_more hx pt m1 m2).frame f1)).mono fun v A2 ⟨a, b, c⟩ => ⟨a, b, f.trans (f1.trans c)⟩
theorem d_pushes {B L : Hs} {i : Nat} (d : Drw B i) : Drw (B ++ L) i := by
  obtain ⟨a, b, c, h⟩ := d
  exact ⟨a, b, c, by rw [List.getElem?_append_left (lt_of_get h)]; exact h⟩
theorem fr_pushes {s : List Nat} {B L : Hs} : Fr s B (B ++ L) := ⟨by simp, fun j hj _ => List.getElem?_append_left hj⟩
theorem bnT_ok {B : Hs} {q : Nat} {L : List D} (d : Drw B i) (hx : LnOk x) (hz : LnS x) (hq : B[q]? = some (.lst L)) (hqi : q ≠ i) (hL : ∀ v ∈ L, Bnt [i] B v) (hl : L.length ≤ 1000) :
    Rk (finR (bnT [some (.ref i), some x.d, some (dS x.e.w), some (.int x.t), some (.int x.k.p), some (.tup [.int x.k.a, .int x.k.b, .int x.k.c]), some (.int x.k.f), some x.e.m, some (.ref q), none, none] B)) fun v A1 => Bnt [i] A1 v ∧ Drw A1 i ∧ Fr [i] B A1 := by
  have hi := d.lt
  have hql := lt_of_get hq
  have iS : ∀ {s : List Nat} {C : Hs} {n : Int}, n.natAbs < 10 ^ 12 → SA1 s C (.int n) := fun h => (ShA.int h).mono (by decide) (by decide)
  have bS : ∀ {s : List Nat} {C : Hs} {b : Bool}, SA1 s C (.bl b) := (ShA.bl).mono (by decide) (by decide)
  have nS : ∀ {s : List Nat} {C : Hs}, SA1 s C .non := (ShA.non).mono (by decide) (by decide)
  have dat : ∀ w : String, (w = "wrote" ∨ w = "read") → ∀ C : Hs, Fr [i] B C → C[B.length + 3]? = some (.lst [.int 1]) → ∀ m ∈ [D.tup [], .tup [.int 256], .ref (B.length + 3), dS "a", .tup [.bl true], .int 5, .tup (List.replicate 1001 (.int 1))], (∀ E, Fr [i] C E → NoM E w m) ∧ SA1 [i] C m := by
    intro w hw C f h3 m hm
    have ww : w ∈ words := by rcases hw with rfl | rfl <;> decide
    simp only [List.mem_cons, List.not_mem_nil, or_false] at hm
    rcases hm with rfl | rfl | rfl | rfl | rfl | rfl | rfl
    · exact ⟨fun E _ => nm_nil hw, (ShAL.nil).tup.mono (by decide) (by decide)⟩
    · exact ⟨fun E _ => nm_data hw (idt_one (.inl rfl)), (ShAL.cons (ShA.int (by decide)) .nil).tup.mono (by decide) (by decide)⟩
    · refine ⟨fun E g => nm_ref ww (.inl ⟨_, g.get h3 (by simp; omega)⟩), ?_⟩
      exact ((ShAL.cons (ShA.int (by decide)) .nil).lst h3 (by simp; omega)).mono (by decide) (by decide)
    · refine ⟨fun E _ => nm_data hw ?_, (ShA.dS (by decide +kernel) (by decide +kernel)).mono (by decide) (by decide)⟩
      rw [idt_no (B := E) (d := dS "a") rfl]
      exact ⟨rfl, .refl⟩
    · exact ⟨fun E _ => nm_data hw (idt_one (.inr rfl)), (ShAL.cons ShA.bl .nil).tup.mono (by decide) (by decide)⟩
    · refine ⟨fun E _ => nm_data hw ?_, iS (by decide)⟩
      rw [idt_no (B := E) (d := .int 5) rfl]
      exact ⟨rfl, .refl⟩
    · refine ⟨fun E _ => nm_data hw ?_, long_s⟩
      rw [idt_long (B := E) (by decide)]
      exact ⟨rfl, .refl⟩
  unfold bnT
  have hw := x.e.ww
  simp only [words, List.mem_cons, List.not_mem_nil, or_false] at hw
  rcases hw with hw | hw | hw | hw
  · rw [hw]
    simp_arith [mul1001, -z6j, Option.getD_none, Option.getD_some]
    rw [← hw]
    simp only [Nat.add_assoc, Nat.reduceAdd, List.append_assoc, List.cons_append, List.nil_append]
    exact bn_fin (Q := B.length + 4) fr_pushes (d_pushes d) hx (Pts.of hx hz) (by rw [List.getElem?_append_left hql]; exact hq) hqi (fun v hv => (hL v hv).frame fr_pushes) hl (by rw [gA]; rfl) (by omega) (by simp) (by simp) (dat _ (.inl hw) _ fr_pushes (by rw [gA]; rfl))
  · rw [hw]
    simp_arith [mul1001, -z6j, Option.getD_none, Option.getD_some]
    rw [← hw]
    simp only [Nat.add_assoc, Nat.reduceAdd, List.append_assoc, List.cons_append, List.nil_append]
    exact bn_fin (Q := B.length + 4) fr_pushes (d_pushes d) hx (Pts.of hx hz) (by rw [List.getElem?_append_left hql]; exact hq) hqi (fun v hv => (hL v hv).frame fr_pushes) hl (by rw [gA]; rfl) (by omega) (by simp) (by simp) (dat _ (.inr hw) _ fr_pushes (by rw [gA]; rfl))
  · rw [hw]
    simp_arith [mul1001, -z6j, Option.getD_none, Option.getD_some]
    rw [← hw]
    simp only [Nat.add_assoc, Nat.reduceAdd, List.append_assoc, List.cons_append, List.nil_append]
    refine bn_fin (Q := B.length) (l := [dS "shut", .int 5, .non]) fr_pushes (d_pushes d) hx (Pts.of hx hz) (by rw [List.getElem?_append_left hql]; exact hq) hqi (fun v hv => (hL v hv).frame fr_pushes) hl (by rw [← Nat.add_zero B.length, gA]; rfl) (by omega) (by simp) (by simp) ?_
    intro m hm
    rw [hw]
    simp only [List.mem_cons, List.not_mem_nil, or_false] at hm
    rcases hm with rfl | rfl | rfl
    · exact ⟨fun E _ => nm_st (.inl rfl), (ShA.dS (by decide +kernel) (by decide +kernel)).mono (by decide) (by decide)⟩
    · exact ⟨fun E _ => nm_st (.inr (.inl rfl)), iS (by decide)⟩
    · exact ⟨fun E _ => nm_st (.inr (.inr rfl)), nS⟩
  · rw [hw]
    simp_arith [mul1001, -z6j, Option.getD_none, Option.getD_some]
    rw [← hw]
    simp only [Nat.add_assoc, Nat.reduceAdd, List.append_assoc, List.cons_append, List.nil_append]
    refine bn_fin (Q := B.length + 1) (l := [.int (-1), .int 4294967296, .bl true, .non, dS "open"]) fr_pushes (d_pushes d) hx (Pts.of hx hz) (by rw [List.getElem?_append_left hql]; exact hq) hqi (fun v hv => (hL v hv).frame fr_pushes) hl (by rw [gA]; rfl) (by omega) (by simp) (by simp) ?_
    intro m hm
    rw [hw]
    simp only [List.mem_cons, List.not_mem_nil, or_false] at hm
    rcases hm with rfl | rfl | rfl | rfl | rfl
    · exact ⟨fun E _ => nm_op (ib_out (.inl (by decide))), iS (by decide)⟩
    · exact ⟨fun E _ => nm_op (ib_out (.inr (by decide))), iS (by decide)⟩
    · exact ⟨fun E _ => nm_op (ib_no (.inr (.inl rfl))), bS⟩
    · exact ⟨fun E _ => nm_op (ib_no (.inl rfl)), nS⟩
    · exact ⟨fun E _ => nm_op (ib_no (.inr (.inr rfl))), (ShA.dS (by decide +kernel) (by decide +kernel)).mono (by decide) (by decide)⟩
end

/-! a line bent -/
section
variable {A : Hs} {i : Nat} {x : Ln}
theorem bnt_A {B : Hs} {l : List D} (h : ∀ C, Fr [i] B C → NL C (.tup l)) (hl : l.length ≤ 7) (hm : ∀ m ∈ l, SA1 [i] B m) : Bnt [i] B (.tup l) := ⟨h, .inl (SA1.tup hm hl)⟩
theorem bnt_Q {B : Hs} {l : List D} {q : Nat} (h : ∀ C, Fr [i] B C → NL C (.tup l)) (hl : l.length ≤ 7) (hm : ∀ m ∈ l, SQ1 [i] B m) (hq : B[q]? = some (.dic false false [])) (hqi : q ≠ i) (hd : .ref q ∈ l) : Bnt [i] B (.tup l) :=
  ⟨h, .inr ⟨NoA.tup hd (NoA.dic hq (by simpa using hqi)), SQ1.tup hm hl⟩⟩
theorem bents_ok {B : Hs} {n : Nat} (hi : i < n) (hx : LnOk x) (hz : LnS x) (g0 : B[n]? = some (.lst [dS x.e.w, .int x.t, .int x.k.p, .tup [.int x.k.a, .int x.k.b, .int x.k.c], .int x.k.f, x.e.m])) (g2 : B[n + 2]? = some (.lst [dS x.e.w])) (g3 : B[n + 3]? = some (.dic false false []))
    (g4 : B[n + 4]? = some (.dic false false [])) (g5 : B[n + 5]? = some (.lst [])) (g8 : B[n + 8]? = some (.lst [])) (g11 : B[n + 11]? = some (.lst [.int x.k.a, .int x.k.b, .int x.k.c])) :
    ∀ v ∈ [D.tup [dS x.e.w, .int x.t, .int x.k.p, .tup [.int x.k.a, .int x.k.b, .int x.k.c], .int x.k.f],
      .ref n,
      .tup [dS x.e.w, .int x.t, .int x.k.p, .tup [.int x.k.a, .int x.k.b, .int x.k.c], .int x.k.f, x.e.m, .int 1],
      .non,
      .tup [dS "told", .int x.t, .int x.k.p, .tup [.int x.k.a, .int x.k.b, .int x.k.c], .int x.k.f, x.e.m],
      .tup [.int 5, .int x.t, .int x.k.p, .tup [.int x.k.a, .int x.k.b, .int x.k.c], .int x.k.f, x.e.m],
      .tup [dS x.e.w, .int (-1), .int x.k.p, .tup [.int x.k.a, .int x.k.b, .int x.k.c], .int x.k.f, x.e.m],
      .tup [.ref (n + 2), .int x.t, .int x.k.p, .tup [.int x.k.a, .int x.k.b, .int x.k.c], .int x.k.f, x.e.m],
      .tup [.ref (n + 3), .int x.t, .int x.k.p, .tup [.int x.k.a, .int x.k.b, .int x.k.c], .int x.k.f, x.e.m],
      .tup [dS x.e.w, .int x.t, .int x.k.p, .tup [.int x.k.a, .int x.k.b, .int x.k.c], .int x.k.f, .ref (n + 4)],
      .tup [dS x.e.w, .int x.t, .int x.k.p, .tup [.int x.k.a, .int x.k.b, .int x.k.c], .int x.k.f, .ref (n + 5)],
      .tup [dS x.e.w, .int x.t, .ref (n + 8), .tup [.int x.k.a, .int x.k.b, .int x.k.c], .int x.k.f, x.e.m],
      .tup [dS x.e.w, .bl true, .int x.k.p, .tup [.int x.k.a, .int x.k.b, .int x.k.c], .int x.k.f, x.e.m],
      .tup [dS x.e.w, .int x.t, .int 256, .tup [.int x.k.a, .int x.k.b, .int x.k.c], .int x.k.f, x.e.m],
      .tup [dS x.e.w, .int x.t, .int x.k.p, .tup [.int x.k.a, .int x.k.b], .int x.k.f, x.e.m],
      .tup [dS x.e.w, .int x.t, .int x.k.p, .ref (n + 11), .int x.k.f, x.e.m],
      .tup [dS x.e.w, .int x.t, .int x.k.p, .tup [.int x.k.a, .int x.k.b, .int x.k.c], .int 4294967296, x.e.m],
      .tup [dS x.e.w, .int x.t, .int x.k.p, .tup [.int 1, .int 2, .int 256], .int x.k.f, x.e.m],
      .tup [dS x.e.w, .int x.t, .int x.k.p, .tup [.int x.k.a, .int x.k.b, .int x.k.c], .int (-1), x.e.m]], Bnt [i] B v := by
  obtain ⟨pw, pt, pp, pk, pf, pm, qw, qt, qp, qk, qf, qm⟩ : Pts [i] B x := Pts.of hx hz
  obtain ⟨ht, ⟨hp, ha, hb, hc, hf⟩, he⟩ := id hx
  have iS : ∀ {m : Int}, m.natAbs < 10 ^ 12 → SA1 [i] B (.int m) := fun h => (ShA.int h).mono (by decide) (by decide)
  have s1 : SA1 [i] B (.int 1) := iS (by decide)
  have s5 : SA1 [i] B (.int 5) := iS (by decide)
  have sm1 : SA1 [i] B (.int (-1)) := iS (by decide)
  have s256 : SA1 [i] B (.int 256) := iS (by decide)
  have s32 : SA1 [i] B (.int 4294967296) := iS (by decide)
  have stt : SA1 [i] B (.bl true) := ShA.bl.mono (by decide) (by decide)
  have stold : SA1 [i] B (dS "told") := (ShA.dS (by decide +kernel) (by decide +kernel)).mono (by decide) (by decide)
  have intS : ∀ {l : List Int}, (∀ m ∈ l, m.natAbs < 10 ^ 12) → l.length ≤ 3 → SA1 [i] B (.tup (l.map D.int)) := fun h hl => (ShAL.ints h).tup.mono (by omega) (by decide)
  have sk2 : SA1 [i] B (.tup [.int x.k.a, .int x.k.b]) := intS (l := [x.k.a, x.k.b]) (by intro m hm; simp only [List.mem_cons, List.not_mem_nil, or_false] at hm; rcases hm with rfl | rfl <;> omega) (by simp)
  have sk3 : SA1 [i] B (.tup [.int 1, .int 2, .int 256]) := intS (l := [1, 2, 256]) (by decide) (by simp)
  have n2 : n + 2 ∉ [i] := by simp; omega
  have n3 : n + 3 ∉ [i] := by simp; omega
  have n4 : n + 4 ∉ [i] := by simp; omega
  have n5 : n + 5 ∉ [i] := by simp; omega
  have n8 : n + 8 ∉ [i] := by simp; omega
  have n11 : n + 11 ∉ [i] := by simp; omega
  have n0 : n ∉ [i] := by simp; omega
  have l6 : ∀ d ∈ [dS x.e.w, .int x.t, .int x.k.p, .tup [.int x.k.a, .int x.k.b, .int x.k.c], .int x.k.f, x.e.m], SA1 [i] B d := (by intro z hz; simp only [List.mem_cons, List.not_mem_nil, or_false] at hz; rcases hz with rfl | rfl | rfl | rfl | rfl | rfl <;> assumption)
  have r2 : SA1 [i] B (.ref (n + 2)) := ((ShAL.cons (ShA.dS (w_short _ (List.mem_append_left _ x.e.ww)).1 (w_short _ (List.mem_append_left _ x.e.ww)).2) .nil).lst g2 n2).mono (by decide) (by decide)
  have r5 : SA1 [i] B (.ref (n + 5)) := (ShAL.nil.lst g5 n5).mono (by decide) (by decide)
  have r8 : SA1 [i] B (.ref (n + 8)) := (ShAL.nil.lst g8 n8).mono (by decide) (by decide)
  have r11 : SA1 [i] B (.ref (n + 11)) := ((ShAL.ints (ns := [x.k.a, x.k.b, x.k.c]) (by intro m hm; simp only [List.mem_cons, List.not_mem_nil, or_false] at hm; rcases hm with rfl | rfl | rfl <;> omega)).lst g11 n11).mono (by simp) (by decide)
  have r3 : SQ1 [i] B (.ref (n + 3)) := (ShQ.dic0 g3 n3).mono (by decide) (by decide)
  have r4 : SQ1 [i] B (.ref (n + 4)) := (ShQ.dic0 g4 n4).mono (by decide) (by decide)
  have bw : ∀ {hi p : Int}, 0 ≤ p → p ≤ hi → ∀ C, F_is_between [.int p, .int hi] C = .ok (.bl true) C := fun h1 h2 C => is_between_t ⟨h1, h2⟩
  intro v hv
  simp only [List.mem_cons, List.not_mem_nil, or_false] at hv
  rcases hv with rfl | rfl | rfl | rfl | rfl | rfl | rfl | rfl | rfl | rfl | rfl | rfl | rfl | rfl | rfl | rfl | rfl | rfl | rfl
  · exact bnt_A (fun C _ => nl_len (by simp)) (by simp) (by intro z hz; simp only [List.mem_cons, List.not_mem_nil, or_false] at hz; rcases hz with rfl | rfl | rfl | rfl | rfl <;> assumption)
  · exact ⟨fun C f => nl_tup (LD.tup (.inl ⟨_, f.get g0 n0⟩)), .inl (((ShAL.of l6).lst g0 n0).mono (by simp) (by decide))⟩
  · exact bnt_A (fun C _ => nl_len (by simp)) (by simp) (by intro z hz; simp only [List.mem_cons, List.not_mem_nil, or_false] at hz; rcases hz with rfl | rfl | rfl | rfl | rfl | rfl | rfl <;> assumption)
  · exact ⟨fun C _ => nl_tup rfl, .inl (ShA.non.mono (by decide) (by decide))⟩
  · exact bnt_A (fun C _ => nl_told) (by simp) (by intro z hz; simp only [List.mem_cons, List.not_mem_nil, or_false] at hz; rcases hz with rfl | rfl | rfl | rfl | rfl | rfl <;> assumption)
  · exact bnt_A (fun C _ => nl_word rfl) (by simp) (by intro z hz; simp only [List.mem_cons, List.not_mem_nil, or_false] at hz; rcases hz with rfl | rfl | rfl | rfl | rfl | rfl <;> assumption)
  · exact bnt_A (fun C _ => nl_at he (.inl rfl)) (by simp) (by intro z hz; simp only [List.mem_cons, List.not_mem_nil, or_false] at hz; rcases hz with rfl | rfl | rfl | rfl | rfl | rfl <;> assumption)
  · exact bnt_A (fun C f => nl_word (LD.str (.inl ⟨_, f.get g2 n2⟩))) (by simp) (by intro z hz; simp only [List.mem_cons, List.not_mem_nil, or_false] at hz; rcases hz with rfl | rfl | rfl | rfl | rfl | rfl <;> assumption)
  · exact bnt_Q (q := n + 3) (fun C f => nl_word (LD.str (.inr ⟨_, f.get g3 n3⟩))) (by simp) (by intro z hz; simp only [List.mem_cons, List.not_mem_nil, or_false] at hz; rcases hz with rfl | rfl | rfl | rfl | rfl | rfl <;> assumption) g3 (by omega) (by simp)
  · exact bnt_Q (q := n + 4) (fun C f => nl_more x.e.ww (nm_ref x.e.ww (.inr ⟨_, f.get g4 n4⟩))) (by simp) (by intro z hz; simp only [List.mem_cons, List.not_mem_nil, or_false] at hz; rcases hz with rfl | rfl | rfl | rfl | rfl | rfl <;> assumption) g4 (by omega) (by simp)
  · exact bnt_A (fun C f => nl_more x.e.ww (nm_ref x.e.ww (.inl ⟨_, f.get g5 n5⟩))) (by simp) (by intro z hz; simp only [List.mem_cons, List.not_mem_nil, or_false] at hz; rcases hz with rfl | rfl | rfl | rfl | rfl | rfl <;> assumption)
  · exact bnt_A (fun C f => nl_last he ht ha hb hc (.inl fun E g => ib_ref (.inl ⟨_, g.get (f.get g8 n8) (by simp)⟩))) (by simp) (by intro z hz; simp only [List.mem_cons, List.not_mem_nil, or_false] at hz; rcases hz with rfl | rfl | rfl | rfl | rfl | rfl <;> assumption)
  · exact bnt_A (fun C _ => nl_at he (.inr rfl)) (by simp) (by intro z hz; simp only [List.mem_cons, List.not_mem_nil, or_false] at hz; rcases hz with rfl | rfl | rfl | rfl | rfl | rfl <;> assumption)
  · exact bnt_A (fun C _ => nl_last he ht ha hb hc (.inl fun E g => ib_out (.inr (by decide)))) (by simp) (by intro z hz; simp only [List.mem_cons, List.not_mem_nil, or_false] at hz; rcases hz with rfl | rfl | rfl | rfl | rfl | rfl <;> assumption)
  · exact bnt_A (fun C _ => nl_key2 he ht) (by simp) (by intro z hz; simp only [List.mem_cons, List.not_mem_nil, or_false] at hz; rcases hz with rfl | rfl | rfl | rfl | rfl | rfl <;> assumption)
  · exact bnt_A (fun C f => nl_keyL he ht (.inl ⟨_, f.get g11 n11⟩)) (by simp) (by intro z hz; simp only [List.mem_cons, List.not_mem_nil, or_false] at hz; rcases hz with rfl | rfl | rfl | rfl | rfl | rfl <;> assumption)
  · exact bnt_A (fun C _ => nl_last he ht ha hb hc (.inr ⟨bw hp.1 hp.2, fun E => ib_out (.inr (by decide))⟩)) (by simp) (by intro z hz; simp only [List.mem_cons, List.not_mem_nil, or_false] at hz; rcases hz with rfl | rfl | rfl | rfl | rfl | rfl <;> assumption)
  · exact bnt_A (fun C _ => nl_key3 he ht) (by simp) (by intro z hz; simp only [List.mem_cons, List.not_mem_nil, or_false] at hz; rcases hz with rfl | rfl | rfl | rfl | rfl | rfl <;> assumption)
  · exact bnt_A (fun C _ => nl_last he ht ha hb hc (.inr ⟨bw hp.1 hp.2, fun E => ib_out (.inl (by decide))⟩)) (by simp) (by intro z hz; simp only [List.mem_cons, List.not_mem_nil, or_false] at hz; rcases hz with rfl | rfl | rfl | rfl | rfl | rfl <;> assumption)
theorem bent_ok (d : Drw A i) (hx : LnOk x) (hz : LnS x) : Rk (F_l_line_bent [.ref i, x.d] A) fun v A1 => Bnt [i] A1 v ∧ Drw A1 i ∧ Fr [i] A A1 := by
  have hi := d.lt
  have dd : x.d = .tup [dS x.e.w, .int x.t, .int x.k.p, .tup [.int x.k.a, .int x.k.b, .int x.k.c], .int x.k.f, x.e.m] := rfl
  rw [bent_eq]
  rw [dd]
  simp_arith []
  rw [← dd]
  simp only [Nat.add_assoc, Nat.reduceAdd, List.append_assoc, List.cons_append, List.nil_append, List.take_succ_cons, List.take_zero, List.drop_succ_cons, List.drop_zero]
  rw [set_app]
  simp only [List.set_cons_succ, List.set_cons_zero, Nat.add_assoc, Nat.reduceAdd, List.append_assoc, List.cons_append, List.nil_append, dd]
  rw [← dd]
  refine (bnT_ok (q := A.length + 15) (d_pushes d) hx hz (by rw [gA]; rfl) (by omega) (bents_ok (n := A.length) hi hx hz ?_ ?_ ?_ ?_ ?_ ?_ ?_) (by simp)).mono fun v A1 ⟨a, b, c⟩ => ⟨a, b, fr_pushes.trans c⟩
  · rw [← Nat.add_zero A.length, gA]; rfl
  all_goals (rw [gA]; rfl)
end

/-! the law's own list of an error's classes (written by kinds15.py) -/
theorem kinds_NoBook {A : Hs} : ∃ A1, F_l_kinds_of [.exc "NoBook"] A = .ok (.ref (A1.length - 1)) A1 ∧ A1[A1.length - 1]? = some (.lst [.int 1]) ∧ A.length < A1.length ∧ Fr [] A A1 := by
  have h0 : oIsi os_ xs_ tb_ (.exc "NoBook") (.nm "NoBits") = fun A => .ok (.bl false) A := rfl
  have h1 : oIsi os_ xs_ tb_ (.exc "NoBook") (.nm "NoBook") = fun A => .ok (.bl true) A := rfl
  have h2 : oIsi os_ xs_ tb_ (.exc "NoBook") (.nm "NoCode") = fun A => .ok (.bl false) A := rfl
  have h3 : oIsi os_ xs_ tb_ (.exc "NoBook") (.nm "NoData") = fun A => .ok (.bl false) A := rfl
  have h4 : oIsi os_ xs_ tb_ (.exc "NoBook") (.nm "NoDeed") = fun A => .ok (.bl false) A := rfl
  have h5 : oIsi os_ xs_ tb_ (.exc "NoBook") (.nm "NoNumber") = fun A => .ok (.bl false) A := rfl
  have h6 : oIsi os_ xs_ tb_ (.exc "NoBook") (.nm "NoPacket") = fun A => .ok (.bl false) A := rfl
  have h7 : oIsi os_ xs_ tb_ (.exc "NoBook") (.nm "NoPlace") = fun A => .ok (.bl false) A := rfl
  have h8 : oIsi os_ xs_ tb_ (.exc "NoBook") (.nm "NoPort") = fun A => .ok (.bl false) A := rfl
  have h9 : oIsi os_ xs_ tb_ (.exc "NoBook") (.nm "NoSegment") = fun A => .ok (.bl false) A := rfl
  have h10 : oIsi os_ xs_ tb_ (.exc "NoBook") (.nm "NoSize") = fun A => .ok (.bl false) A := rfl
  have h11 : oIsi os_ xs_ tb_ (.exc "NoBook") (.nm "NoTable") = fun A => .ok (.bl false) A := rfl
  have h12 : oIsi os_ xs_ tb_ (.exc "NoBook") (.nm "NoTalk") = fun A => .ok (.bl false) A := rfl
  have h13 : oIsi os_ xs_ tb_ (.exc "NoBook") (.nm "NoText") = fun A => .ok (.bl false) A := rfl
  have h14 : oIsi os_ xs_ tb_ (.exc "NoBook") (.nm "NoTick") = fun A => .ok (.bl false) A := rfl
  have h15 : oIsi os_ xs_ tb_ (.exc "NoBook") (.nm "WireError") = fun A => .ok (.bl true) A := rfl
  have h16 : oIsi os_ xs_ tb_ (.exc "NoBook") (.ty "ValueError") = fun A => .ok (.bl true) A := rfl
  have key : ∀ (B : Hs) (q : Nat), B[q]? = some (.lst [D.bl false, D.bl true, D.bl false, D.bl false, D.bl false, D.bl false, D.bl false, D.bl false, D.bl false, D.bl false, D.bl false, D.bl false, D.bl false, D.bl false, D.bl false]) →
      lcL (gN 2) (tOf (eOp oIx (eVar 1) (eVar 2))) (eVar 2) tt [some (.exc "NoBook"), some (.ref q), none] (rgL 0 1 15) [] B = .ok [.int 1] B := fun B q hB => by
    rw [lc_go (fun d => match d with | .int i => decide (i = 1) | _ => false) id trivial (by rw [rgL_len]; decide)]
    · rfl
    · intro d hd
      obtain ⟨j, hj, rfl⟩ := mem_rgL hd
      rcases (by omega : j = 0 ∨ j = 1 ∨ j = 2 ∨ j = 3 ∨ j = 4 ∨ j = 5 ∨ j = 6 ∨ j = 7 ∨ j = 8 ∨ j = 9 ∨ j = 10 ∨ j = 11 ∨ j = 12 ∨ j = 13 ∨ j = 14) with rfl | rfl | rfl | rfl | rfl | rfl | rfl | rfl | rfl | rfl | rfl | rfl | rfl | rfl | rfl <;>
        (show Got _ _; simp_arith [hB]; first | exact ⟨rfl, rfl, fun _ => rfl⟩ | exact ⟨rfl, rfl, fun z => nomatch z⟩)
  suffices H : Rk (F_l_kinds_of [.exc "NoBook"] A) fun v A1 => v = .ref (A1.length - 1) ∧ A1[A1.length - 1]? = some (.lst [.int 1]) ∧ A.length < A1.length ∧ Fr [] A A1 by
    obtain ⟨_, A1, e, rfl, h⟩ := H.ex
    exact ⟨A1, e, h⟩
  unfold F_l_kinds_of
  simp_arith [h0, h1, h2, h3, h4, h5, h6, h7, h8, h9, h10, h11, h12, h13, h14, h15, h16]
  rw [key _ _ (by rw [List.getElem?_append_right (by simp)]; simp)]
  simp_arith []
  exact ⟨by simp, by (try simp) <;> omega, by walk_at "fr!"⟩

/-! need_book refuses -/
section
variable {A : Hs} {b q i : Nat} {l : List D}
/-- something that can be asked whether it is a line -/
def Askd (A : Hs) (d : D) : Prop := ∀ B, Fr [] A B → Rk (F_is_line [d] B) fun v A1 => (∃ c, v = .bl c) ∧ Fr [] B A1
theorem Askd.ln {x : Ln} (h : LnOk x) : Askd A x.d := fun B _ => (is_line_ok (A := B) h).mono fun v A1 ⟨a, f⟩ => ⟨⟨_, a⟩, f⟩
theorem isl_list (h : A[q]? = some (.lst l)) : oIsi os_ xs_ tb_ (.ref q) (.ty "list") A = .ok (.bl true) A := by
  unfold oIsi isiD kdOf
  simp only [h]
  rfl
theorem isl_dic {kv : List (D × D)} (h : A[q]? = some (.dic false false kv)) : oIsi os_ xs_ tb_ (.ref q) (.ty "list") A = .ok (.bl false) A := by
  unfold oIsi isiD kdOf
  simp only [h]
  rfl
theorem need_no {d : D} (h : oIsi os_ xs_ tb_ d (.ty "list") A = .ok (.bl false) A) : F_need_book [d] A = .exc "NoBook" A := by
  unfold F_need_book
  simp_arith [h]
theorem need_bad {k : Nat} {dB : D} (hb : A[b]? = some (.lst l)) (hl : l.length ≤ 1000) (hk : l[k]? = some dB) (hbad : ∀ B, Fr [] A B → NL B dB) (hg : ∀ j d, l[j]? = some d → j ≠ k → Askd A d) : ∃ A1, F_need_book [.ref b] A = .exc "NoBook" A1 ∧ Fr [] A A1 := by
  have R := lc_run (A := A) (g := gN 1) (t := tYe) (a := eCall0 F_is_line (aCons (eVar 1) aNil)) (gd := fun A' => A'[b]? = some (.lst l)) (env := [some (.ref b), none, none]) (ds := l) (fun j r B => (∃ bs : List Bool, r = bs.map D.bl ∧ (k < j → false ∈ bs)) ∧ Fr [] A B) ⟨⟨[], rfl, fun h => by omega⟩, .refl⟩ (by omega) (fun _ _ B h => h.2.get hb (by simp)) (by
    rintro j d hd r B ⟨⟨bs, rfl, hf⟩, fB⟩
    have : ∃ c A1, F_is_line [d] B = .ok (.bl c) A1 ∧ Fr [] B A1 ∧ (j = k → c = false) := by
      by_cases e : j = k
      · subst e
        rw [hk] at hd
        cases hd
        obtain ⟨_, A1, e1, rfl, f1⟩ := Rk.ex (hbad B fB)
        exact ⟨false, A1, e1, f1, fun _ => rfl⟩
      · obtain ⟨_, A1, e1, ⟨c, rfl⟩, f1⟩ := Rk.ex (hg j d hd e B fB)
        exact ⟨c, A1, e1, f1, fun h => absurd h e⟩
    obtain ⟨c, A1, e1, f1, hc⟩ := this
    show Got _ _
    simp_arith [e1]
    refine ⟨⟨bs ++ [c], by simp, fun h => ?_⟩, fB.trans f1⟩
    rw [List.mem_append, List.mem_singleton]
    by_cases e : j = k
    · exact .inr (hc e).symm
    · exact .inl (hf (by omega)))
  obtain ⟨r, A1, e, ⟨bs, rfl, hf⟩, f1⟩ := R.ex
  have hf := hf (List.getElem?_eq_some_iff.mp hk).1
  have e1 : bs.all id = false := by
    rw [List.all_eq_false]
    exact ⟨false, hf, by simp⟩
  have i1 := isl_list hb
  refine ⟨A1 ++ [.lst (bs.map D.bl)], ?_, f1.then_push⟩
  unfold F_need_book
  simp_arith [hb, i1, e, e1]
theorem py_ints {A : Hs} {n : Nat} : ∀ a : List Int, allSome ((a.map D.int).map (pyA A n)) = some (a.map PyData.int)
  | [] => rfl
  | b :: a => by
    rw [List.map_cons, List.map_cons]
    have e : pyA A n (.int b) = some (.int b) := by cases n <;> rfl
    rw [e]
    unfold allSome
    rw [py_ints a]; rfl
theorem eqv_ints : ∀ a b : List Int, PyData.eqvAll (a.map PyData.int) (b.map PyData.int) = decide (a = b)
  | [], [] => by simp [PyData.eqvAll]
  | [], b :: bs => by simp [PyData.eqvAll]
  | a :: as, [] => by simp [PyData.eqvAll]
  | a :: as, b :: bs => by
    rw [List.map_cons, List.map_cons, PyData.eqvAll, eqv_ints as bs, PyData.eqv]
    by_cases c : a = b <;> by_cases d : as = bs <;> simp [c, d]
theorem oNe_intL {j : Nat} {u v : List Int} (hi : A[i]? = some (.lst (u.map D.int))) (hj : A[j]? = some (.lst (v.map D.int))) : oNe (.ref i) (.ref j) A = .ok (.bl (!decide (u = v))) A := by
  refine neA_of ?_
  unfold eqA
  rw [py_lst hi, py_lst hj, py_ints, py_ints]
  simp only [Option.map_some, PyData.eqv, eqv_ints]
theorem need_falls {L : List Ln} (hb : A[b]? = some (.lst (L.map Ln.d))) (hl : L.length ≤ 1000) (h : ∀ x ∈ L, LnOk x) (hs : srt (L.map Ln.t) ≠ L.map Ln.t) : ∃ A1, F_need_book [.ref b] A = .exc "NoBook" A1 ∧ Fr [] A A1 := by
  have bl := lt_of_get hb
  obtain ⟨A1, e1, f1⟩ := lc_frs (g := gN 1) (t := tYe) (a := eCall0 F_is_line (aCons (eVar 1) aNil)) (gd := fun A' => A'[b]? = some (.lst (L.map Ln.d))) (env := [some (.ref b), none, none]) (A := A) (ds := L.map Ln.d) (fun _ => .bl true) (by simp; omega) (fun B f => f.get hb (by simp)) (by
    intro d hd B fB
    obtain ⟨x, hx, rfl⟩ := List.mem_map.mp hd
    obtain ⟨_, A2, e, rfl, f⟩ := (is_line_ok (A := B) (h x hx)).ex
    show Got _ _
    simp_arith [e]
    exact f)
  rw [List.map_map] at e1
  have hb1 := f1.get hb (by simp)
  have bl1 := lt_of_get hb1
  have hb2 : (A1 ++ [O.lst (L.map fun _ => D.bl true)])[b]? = some (.lst (L.map Ln.d)) := by rw [List.getElem?_append_left bl1]; exact hb1
  have e2 : lcL (gN 1) tYe (eOp oIx (eVar 1) (eC (.int 1))) (fun A' => A'[b]? = some (.lst (L.map Ln.d))) [some (.ref b), none, none] (L.map Ln.d) [] (A1 ++ [O.lst (L.map fun _ => D.bl true)]) = .ok ((L.map Ln.t).map D.int) (A1 ++ [O.lst (L.map fun _ => D.bl true)]) := by
    rw [lc_go (fun _ => true) (fun d => match d with | .tup (_ :: t :: _) => t | _ => .non) hb2 (by simp; omega)]
    · rw [List.filter_eq_self.mpr (by simp), List.map_map, List.map_map]; rfl
    · intro d hd
      obtain ⟨x, hx, rfl⟩ := List.mem_map.mp hd
      show Got _ _
      simp_arith [line_at1]
      try exact fun _ => rfl
  have e3 : (Function.comp (fun _ => D.bl true) Ln.d) = fun _ => D.bl true := rfl
  rw [e3] at e1
  have e5 : (L.map fun _ => true).all id = true := by simp
  have i1 := isl_list hb
  obtain ⟨T, hT⟩ : ∃ T, T = L.map Ln.t := ⟨_, rfl⟩
  rw [← hT] at e2 hs
  have ne : ¬ T = srt T := fun h => hs h.symm
  have e6 := oNe_intL (A := A1 ++ [O.lst (L.map fun _ => D.bl true)] ++ [O.lst (T.map D.int)] ++ [O.lst ((srt T).map D.int)]) (i := A1.length + 1) (j := A1.length + 1 + 1) (u := T) (v := srt T)
    (by rw [List.getElem?_append_left (by simp), List.getElem?_append_right (by simp)]; simp) (by rw [List.getElem?_append_right (by simp)]; simp)
  rw [decide_eq_false ne] at e6
  refine ⟨A1 ++ [O.lst (L.map fun _ => D.bl true)] ++ [O.lst (T.map D.int)] ++ [O.lst ((srt T).map D.int)], ?_, ((f1.then_push).then_push).then_push⟩
  unfold F_need_book
  simp_arith [hb, i1, e1, all_tr, hb1, e2, e5, z0l, e6]
theorem srt_fall {T : List Int} {a b : Int} (h : b < a) : srt (T ++ [a, b]) ≠ T ++ [a, b] := fun e => by
  have h2 : (srt (T ++ [a, b])).Pairwise fun a b => decide (a ≤ b) = true := List.pairwise_mergeSort (fun a b c => by simp only [decide_eq_true_eq]; omega) (fun a b => by simp only [Bool.or_eq_true, decide_eq_true_eq]; omega) _
  rw [e, List.pairwise_append] at h2
  have := h2.2.1
  simp at this
  omega
/-! the law's own asking -/
theorem cts_book : "NoBook" ∈ cts_WireError := by decide
theorem refused_no {d : D} (h : ∃ A1, F_need_book [d] A = .exc "NoBook" A1 ∧ Fr [] A A1) : ∃ A1 q, F_l_refused [d] A = .ok (.ref q) A1 ∧ A1[q]? = some (.lst [.int 1]) ∧ Fr [] A A1 := by
  obtain ⟨A1, e, f⟩ := h
  obtain ⟨A2, e2, g, _, f2⟩ := kinds_NoBook (A := A1)
  refine ⟨A2, A2.length - 1, ?_, g, f.trans f2⟩
  have e3 : oIs (.exc "NoBook") .non A1 = .ok (.bl false) A1 := rfl
  unfold F_l_refused
  simp_arith [e, z2f cts_book, e3, e2]
theorem refused_yes {L : List Ln} (hb : A[b]? = some (.lst (L.map Ln.d))) (h : BkOk L) : ∃ A1, F_l_refused [.ref b] A = .ok .non A1 ∧ Fr [] A A1 := by
  obtain ⟨_, A1, e, rfl, f⟩ := (need_book_ok hb h).ex
  refine ⟨A1, ?_, f⟩
  unfold F_l_refused
  simp_arith [e]
end

/-! lists of different lengths -/
theorem eqvAll_len : ∀ {xs ys : List PyData}, xs.length ≠ ys.length → PyData.eqvAll xs ys = false
  | [], [], h => absurd rfl h
  | [], _ :: _, _ => by simp [PyData.eqvAll]
  | _ :: _, [], _ => by simp [PyData.eqvAll]
  | x :: xs, y :: ys, h => by
    unfold PyData.eqvAll
    rw [eqvAll_len (xs := xs) (ys := ys) (by simpa using h), Bool.and_false]
theorem allSome_len {α : Type} : ∀ {l : List (Option α)} {ps : List α}, allSome l = some ps → ps.length = l.length
  | [], ps, h => by cases h; rfl
  | some a :: r, ps, h => by
    unfold allSome at h
    obtain ⟨qs, hq, rfl⟩ := Option.map_eq_some_iff.mp h
    simp [allSome_len hq]
  | none :: _, _, h => by cases h
theorem eqA_len {A : Hs} {i j : Nat} {l k : List D} (h : A[i]? = some (.lst l)) (g : A[j]? = some (.lst k)) (hn : l.length ≠ k.length) : eqA A (.ref i) (.ref j) = some false := by
  unfold eqA
  rw [py_lst h, py_lst g]
  cases q1 : allSome (l.map (pyA A 39)) with
  | none => unfold unL; simp [h, g, hn]
  | some ps =>
    cases q2 : allSome (k.map (pyA A 39)) with
    | none => unfold unL; simp [h, g, hn]
    | some qs =>
      have e1 := allSome_len q1
      have e2 := allSome_len q2
      rw [List.length_map] at e1 e2
      simp [PyData.eqv, eqvAll_len (xs := ps) (ys := qs) (by omega)]
theorem oNe_len {A : Hs} {i j : Nat} {l k : List D} (h : A[i]? = some (.lst l)) (g : A[j]? = some (.lst k)) (hn : l.length ≠ k.length) : oNe (.ref i) (.ref j) A = .ok (.bl true) A := neA_of (eqA_len h g hn)
noncomputable def lw9 : S := (sSeq (sSet 8 (eCB (c1 oRepr) (aCons (eVar 6) aNil))) (sIf (tOo (tOf (eOp oNe (eCall0 F_l_refused (aCons (eVar 6) aNil)) (eLst (aCons (eC (.int 1)) aNil)))) (tOf (eOp oNe (eCB (c1 oRepr) (aCons (eVar 6) aNil)) (eVar 8)))) (sRet (eC (.bl false))) sNx))
noncomputable def lwI : S := (sSeq (sSet 3 (eOp oAdd (eVar 3) (eCall0 F_l_pick (aCons (eVar 2) (aCons (eLst (aCons (eC (.int 0)) (aCons (eC (.int 1)) (aCons (eC (.int 0)) (aCons (eC (.int 7)) aNil))))) aNil))))) (sDrop (eBL oAppend (eVar 4) (aCons (eCall0 F_l_line (aCons (eVar 2) (aCons (eVar 3) aNil))) aNil))))
noncomputable def lw5 : S := (sIf (tOo (tOf (eOp oIsNot (eCall0 F_l_refused (aCons (eVar 4) aNil)) (eC .non))) (tOo (tOf (eOp oIsNot (eCall0 F_need_book (aCons (eVar 4) aNil)) (eC .non))) (tOf (eOp oNe (eCall0 F_l_refused (aCons (eCB (c1 oTuple) (aCons (eVar 4) aNil)) aNil)) (eLst (aCons (eC (.int 1)) aNil)))))) (sRet (eC (.bl false))) sNx)
noncomputable def lw8 : S := (sIf (tOf (eOp oEq (eCall0 F_l_next (aCons (eVar 2) (aCons (eC (.int 3)) aNil))) (eC (.int 0)))) (sSet 6 (eOp oAdd (eVar 4) (eLst (aCons (eCall0 F_l_line (aCons (eVar 2) (aCons (eOp oAdd (eVar 3) (eC (.int 2))) aNil))) (aCons (eCall0 F_l_line (aCons (eVar 2) (aCons (eOp oAdd (eVar 3) (eC (.int 1))) aNil))) aNil))))) sNx)
noncomputable def lw6 : S := (sSet 6 (eCall0 F_l_pick (aCons (eVar 2) (aCons (eLst (aCons (eC .non) (aCons (eC (.int 5)) (aCons (eC (dS "wrote")) (aCons (eCB (c1 oDict) (aCons (eLst (aCons (eTup (aCons (eC (.int 1)) (aCons (eC (.int 2)) aNil))) aNil)) aNil)) (aCons (eLst (aCons (eC .non) aNil)) (aCons (eLst (aCons (eTup aNil) aNil)) (aCons (eLst (aCons (eC (.int 5)) aNil)) aNil)))))))) aNil))))
noncomputable def lw7 : S := (sIf (tOf (eOp oNe (eVar 4) (eLst aNil))) (sSeq (sSet 7 (eCall0 F_l_next (aCons (eVar 2) (aCons (eCB (c1 oLen) (aCons (eVar 4) aNil)) aNil)))) (sSet 6 (eOp oAdd (eOp oAdd (eSl oSl (eVar 4) oNo (oSo (eVar 7))) (eLst (aCons (eCall0 F_l_line_bent (aCons (eVar 2) (aCons (eOp oIx (eVar 4) (eVar 7)) aNil))) aNil))) (eSl oSl (eVar 4) (oSo (eOp oAdd (eVar 7) (eC (.int 1)))) oNo)))) sNx)
noncomputable def lwB : S := (sSeq (sSet 2 (eCall0 F_l_draw (aCons (eVar 0) (aCons (eVar 1) (aCons (eC (.int 0)) aNil))))) (sSeq (sSet 3 (eC (.int 0))) (sSeq (sSet 4 (eLst aNil)) (sSeq (sFor (wAs rg1 (aCons (eCall0 F_l_next (aCons (eVar 2) (aCons (eC (.int 6)) aNil))) aNil)) (gN 5) lwI) (sSeq lw5 (sSeq lw6 (sSeq lw7 (sSeq lw8 lw9))))))))
theorem law_eq : F_law = mkFn 1 9 (sSeq (sFor (wAs rg1 (aCons (eCB (c2 oMax2) (aCons (eC (.int 1)) (aCons (eCB (c2 oMin2) (aCons (eCB (c1 oLen) (aCons (eVar 0) aNil)) (aCons (eC (.int 30)) aNil))) aNil))) aNil)) (gN 1) lwB) (sRet (eC (.bl true)))) := rfl
/-! the law's parts -/
structure Bk (A : Hs) (i q : Nat) (L : List Ln) (now : Int) : Prop where
  d : Drw A i
  h : A[q]? = some (.lst (L.map Ln.d))
  n : q ≠ i
  l : L.length ≤ 5
  x : ∀ x ∈ L, LnOk x ∧ LnS x
  s : (L.map Ln.t).Pairwise (· ≤ ·)
  t : ∀ x ∈ L, x.t ≤ now
  w : 0 ≤ now ∧ now ≤ 7 * (L.length : Int)
theorem Bk.ok {A : Hs} {i q : Nat} {L : List Ln} {now : Int} (h : Bk A i q L now) : BkOk L := ⟨by have := h.l; omega, fun x hx => (h.x x hx).1, h.s⟩
theorem Bk.frame {A B : Hs} {i q : Nat} {L : List Ln} {now : Int} (h : Bk A i q L now) (f : Fr [] A B) : Bk B i q L now := ⟨h.d.frame f (by simp), f.get h.h (by simp), h.n, h.l, h.x, h.s, h.t, h.w⟩
theorem Bk.next {A B : Hs} {i q : Nat} {L : List Ln} {now : Int} (h : Bk A i q L now) (d : Drw B i) (f : Fr [i] A B) : Bk B i q L now := ⟨d, f.get h.h (by simpa using h.n), h.n, h.l, h.x, h.s, h.t, h.w⟩
/-- a thing that is no book, and is shown alike at all times -/
structure Wr (s : List Nat) (A : Hs) (w : D) : Prop where
  n : ∀ B, Fr s A B → ∃ A1, F_need_book [w] B = .exc "NoBook" A1 ∧ Fr [] B A1
  r : ∃ z, ∀ B, Fr s A B → oRepr w B = .ok (.str z) B
theorem Wr.frame {s : List Nat} {A B : Hs} {w : D} (h : Wr s A w) (f : Fr s A B) : Wr s B w := by
  obtain ⟨z, hz⟩ := h.r
  exact ⟨fun C g => h.n C (f.trans g), z, fun C g => hz C (f.trans g)⟩
theorem ln_A {s : List Nat} {A : Hs} {x : Ln} (h : LnOk x) (z : LnS x) : ShA s A 9000 6 x.d := by
  obtain ⟨w, t, p, k, f, m, _, _, _, _, _, _⟩ : Pts s A x := Pts.of h z
  exact SA1.tup (by intro z hz; simp only [List.mem_cons, List.not_mem_nil, or_false] at hz; rcases hz with rfl | rfl | rfl | rfl | rfl | rfl <;> assumption) (by simp)
theorem ln_Q {s : List Nat} {A : Hs} {x : Ln} (h : LnOk x) (z : LnS x) : ShQ s A 9000 6 x.d := by
  obtain ⟨_, _, _, _, _, _, w, t, p, k, f, m⟩ : Pts s A x := Pts.of h z
  exact SQ1.tup (by intro z hz; simp only [List.mem_cons, List.not_mem_nil, or_false] at hz; rcases hz with rfl | rfl | rfl | rfl | rfl | rfl <;> assumption) (by simp)
section
variable {A : Hs} {i q : Nat} {L : List Ln} {now : Int} {o0 o1 o5 o6 o7 o8 : Option D}
theorem lwI_ok (h : Bk A i q L now) (hl : L.length < 5) : Nx (lwI [o0, o1, some (.ref i), some (.int now), some (.ref q), o5, o6, o7, o8] A) fun en A1 => ∃ n2 x, en = [o0, o1, some (.ref i), some (.int n2), some (.ref q), o5, o6, o7, o8] ∧ Bk A1 i q (L ++ [x]) n2 ∧ Fr [i, q] A A1 := by
  obtain ⟨a, A1, ha, e1, d1, f1⟩ := h.d.pk (l := [.int 0, .int 1, .int 0, .int 7]) (by simp) (by simp)
  obtain ⟨a, rfl, a1, a2⟩ : ∃ a' : Int, a = .int a' ∧ 0 ≤ a' ∧ a' ≤ 7 := by
    simp only [List.mem_cons, List.not_mem_nil, or_false] at ha
    rcases ha with rfl | rfl | rfl | rfl <;> exact ⟨_, rfl, by decide, by decide⟩
  have w1 := h.w.1
  have w2 := h.w.2
  obtain ⟨_, A2, e2, x, rfl, xt, xo, _, x3, d2, f2⟩ := (lline_d (t := now + a) d1 (by omega)).ex
  have g1 := f1.get h.h (by simpa using h.n)
  have g2 := f2.get g1 (by simpa using h.n)
  have lq := lt_of_get g2
  have hll := h.l
  unfold lwI
  simp_arith [e1, e2, g1, g2]
  refine ⟨now + a, x, rfl, ⟨?_, ?_, h.n, by simp; omega, ?_, ?_, ?_, by omega, ?_⟩, ?_⟩
  · obtain ⟨u, v, w, hd⟩ := d2
    exact ⟨u, v, w, by rw [List.getElem?_set_ne h.n]; exact hd⟩
  · rw [List.getElem?_set_self lq, List.map_append]; rfl
  · intro y hy
    rcases List.mem_append.mp hy with c | c
    · exact h.x y c
    · rw [List.mem_singleton] at c; subst c; exact ⟨xo, by rw [xt]; omega, x3⟩
  · rw [List.map_append, List.pairwise_append]
    refine ⟨h.s, by simp, fun u hu v hv => ?_⟩
    obtain ⟨y, hy, rfl⟩ := List.mem_map.mp hu
    simp only [List.map_cons, List.map_nil, List.mem_singleton] at hv
    have := h.t y hy
    omega
  · intro y hy
    rcases List.mem_append.mp hy with c | c
    · have := h.t y c; omega
    · rw [List.mem_singleton] at c; subst c; omega
  · simp; omega
  · exact ((f1.mono (by simp)).trans (f2.mono (by simp))).then_set (.inl (by simp))
theorem lw5_ok (h : Bk A i q L now) : Nx (lw5 [o0, o1, some (.ref i), some (.int now), some (.ref q), o5, o6, o7, o8] A) fun en A1 => en = [o0, o1, some (.ref i), some (.int now), some (.ref q), o5, o6, o7, o8] ∧ Bk A1 i q L now ∧ Fr [] A A1 := by
  obtain ⟨A1, e1, f1⟩ := refused_yes h.h h.ok
  have h1 := h.frame f1
  obtain ⟨_, A2, e2, rfl, f2⟩ := (need_book_ok h1.h h1.ok).ex
  have h2 := h1.frame f2
  obtain ⟨A3, p, e3, g3, f3⟩ := refused_no (A := A2) (d := .tup (L.map Ln.d)) ⟨A2, need_no rfl, .refl⟩
  have h3 := h2.frame f3
  have tq : oTuple (.ref q) A2 = .ok (.tup (L.map Ln.d)) A2 := by
    have := h2.h
    simp_arith [this]
  have ne := oNe_lst (A := A3 ++ [O.lst [.int 1]]) (i := p) (j := A3.length) (l := [.int 1]) (get_push g3) zc5 (by simp [pd_int])
  unfold lw5
  simp_arith [e1, e2, tq, e3, ne, -z23]
  exact ⟨h3.frame .push, (f1.trans (f2.trans f3)).then_push⟩
theorem od_one : od_ A (some (.lst [.tup [.int 1, .int 2]])) = .ok (.ref A.length) (A ++ [.dic false false [(.int 1, .int 2)]]) := rfl
theorem wr_flat {s : List Nat} {d : D} (h : ∀ B, oIsi os_ xs_ tb_ d (.ty "list") B = .ok (.bl false) B) (k : ShA s A 100 1 d) : Wr s A d :=
  ⟨fun B _ => ⟨B, need_no (h B), .refl⟩, repr_A k (by decide) (by decide)⟩
theorem wr_one {s : List Nat} {d : D} {p : Nat} (hp : A[p]? = some (.lst [d])) (hps : p ∉ s) (h : ∀ B, NL B d) (k : ShA s A 100 3 d) : Wr s A (.ref p) := by
  refine ⟨fun B f => ?_, repr_A (W := 101) (n := 4) (((ShAL.cons k .nil).lst hp hps).mono (by decide) (by decide)) (by decide) (by decide)⟩
  have hp' := f.get hp hps
  refine need_bad (k := 0) (dB := d) hp' (by simp) rfl (fun C _ => h C) ?_
  intro j e hj hne
  have := (List.getElem?_eq_some_iff.mp hj).1
  simp only [List.length_singleton] at this
  omega
theorem wr_dic {s : List Nat} {p : Nat} (hp : A[p]? = some (.dic false false [(.int 1, .int 2)])) (hps : p ∉ s) : Wr s A (.ref p) := by
  refine ⟨fun B f => ⟨B, need_no (isl_dic (f.get hp hps)), .refl⟩, repr_Q (W := 10) (n := 1) ⟨.dict [(.int 1, .int 2)], fun B f k hk => ?_, by decide +kernel, by decide +kernel, by decide +kernel, by decide +kernel⟩ (NoA.dic hp hps) (by decide) (by decide)⟩
  cases k with
  | zero => omega
  | succ k => unfold pyQ; rw [f.get hp hps]; rfl
theorem lw6_ok (h : Bk A i q L now) : Nx (lw6 [o0, o1, some (.ref i), some (.int now), some (.ref q), o5, o6, o7, o8] A) fun en A1 => ∃ w, en = [o0, o1, some (.ref i), some (.int now), some (.ref q), o5, some w, o7, o8] ∧ Wr [i] A1 w ∧ Bk A1 i q L now ∧ Fr [i] A A1 := by
  have hi := h.d.lt
  unfold lw6
  simp_arith [od_one]
  simp only [Nat.add_assoc, Nat.reduceAdd, List.append_assoc, List.cons_append, List.nil_append]
  refine Rk.call (fun r => Nx (ofE _ r.noX _) _) (Drw.rk (d_pushes h.d) (q := A.length + 5) (by rw [gA]; rfl) (by omega) (by simp) (by simp)) ?_
  rintro w A1 ⟨hw, d1, f1⟩
  have g1 : A1[A.length + 1]? = some (.dic false false [(.int 1, .int 2)]) := f1.get (by rw [gA]; rfl) (by simp; omega)
  have g2 : A1[A.length + 2]? = some (.lst [.non]) := f1.get (by rw [gA]; rfl) (by simp; omega)
  have g3 : A1[A.length + 3]? = some (.lst [.tup []]) := f1.get (by rw [gA]; rfl) (by simp; omega)
  have g4 : A1[A.length + 4]? = some (.lst [.int 5]) := f1.get (by rw [gA]; rfl) (by simp; omega)
  refine ⟨w, rfl, ?_, h.next d1 (fr_pushes.trans f1), fr_pushes.trans f1⟩
  simp only [List.mem_cons, List.not_mem_nil, or_false] at hw
  rcases hw with rfl | rfl | rfl | rfl | rfl | rfl | rfl
  · exact wr_flat (fun B => rfl) (ShA.non.mono (by decide) (by decide))
  · exact wr_flat (fun B => rfl) ((ShA.int (by decide)).mono (by decide) (by decide))
  · exact wr_flat (fun B => rfl) ((ShA.dS (by decide +kernel) (by decide +kernel)).mono (by decide) (by decide))
  · exact wr_dic g1 (by simp; omega)
  · exact wr_one g2 (by simp; omega) (fun B => nl_tup rfl) (ShA.non.mono (by decide) (by decide))
  · exact wr_one g3 (by simp; omega) (fun B => nl_len (by simp)) (ShAL.nil.tup.mono (by decide) (by decide))
  · exact wr_one g4 (by simp; omega) (fun B => nl_tup rfl) ((ShA.int (by decide)).mono (by decide) (by decide))
end

/-! the thing that is no book; the law -/
theorem nx_trn {J : Sl → Hs → Prop} {R : RS → Prop} {P : Sl → Hs → Prop} {r : RS} (h : Nx r P) (k : ∀ e A, P e A → J e A) : Trn J R r := by
  cases r with
  | nx e A => exact k e A h
  | _ => exact h.elim
section
variable {A : Hs} {i q : Nat} {L : List Ln} {now : Int} {o0 o1 o5 o6 o7 o8 : Option D}
/-- lines with one that is none among them -/
theorem wr_bent {p : Nat} {L1 L2 : List Ln} {v : D} (hp : A[p]? = some (.lst (L1.map Ln.d ++ [v] ++ L2.map Ln.d))) (hpi : p ≠ i) (h1 : ∀ x ∈ L1, LnOk x ∧ LnS x) (h2 : ∀ x ∈ L2, LnOk x ∧ LnS x) (hl : L1.length + L2.length ≤ 10) (hv : Bnt [i] A v) : Wr [i] A (.ref p) := by
  have all : ∀ d ∈ L1.map Ln.d ++ [v] ++ L2.map Ln.d, d = v ∨ ∃ x : Ln, d = x.d ∧ LnOk x ∧ LnS x := by
    intro d hd
    simp only [List.mem_append, List.mem_map, List.mem_singleton] at hd
    rcases hd with (⟨x, hx, rfl⟩ | rfl) | ⟨x, hx, rfl⟩
    · exact .inr ⟨x, rfl, h1 x hx⟩
    · exact .inl rfl
    · exact .inr ⟨x, rfl, h2 x hx⟩
  have len : (L1.map Ln.d ++ [v] ++ L2.map Ln.d).length ≤ 11 := by simp; omega
  refine ⟨fun B f => ?_, ?_⟩
  · refine need_bad (k := L1.length) (dB := v) (f.get hp (by simpa using hpi)) (by omega) ?_ (fun C g => hv.n C (f.trans (g.mono (by simp)))) ?_
    · rw [List.append_assoc, List.getElem?_append_right (by simp)]; simp
    · intro j d hd hne
      have : ∃ x : Ln, d = x.d ∧ LnOk x := by
        rw [List.append_assoc] at hd
        by_cases c : j < L1.length
        · rw [List.getElem?_append_left (by simpa using c)] at hd
          obtain ⟨x, hx, rfl⟩ := List.mem_map.mp (List.mem_of_getElem? hd)
          exact ⟨x, rfl, (h1 x hx).1⟩
        · rw [List.getElem?_append_right (by simp; omega)] at hd
          have e : j - (L1.map Ln.d).length = (j - L1.length - 1) + 1 := by simp; omega
          rw [e, List.singleton_append, List.getElem?_cons_succ] at hd
          obtain ⟨x, hx, rfl⟩ := List.mem_map.mp (List.mem_of_getElem? hd)
          exact ⟨x, rfl, (h2 x hx).1⟩
      obtain ⟨x, rfl, hx⟩ := this
      exact Askd.ln hx
  · have w : (L1.map Ln.d ++ [v] ++ L2.map Ln.d).length * (9000 + 1) ≤ 1000000 := Nat.le_trans (Nat.mul_le_mul_right 9001 len) (by decide)
    rcases hv.r with k | ⟨k1, k2⟩
    · refine repr_A ((ShAL.of (W := 9000) (n := 6) fun d hd => ?_).lst hp (by simpa using hpi)) w (by decide)
      rcases all d hd with rfl | ⟨x, rfl, a, b⟩
      · exact k
      · exact ln_A a b
    · refine repr_QL hp (by simpa using hpi) (ShQL.of (W := 9000) (n := 6) fun d hd => ?_) (by simp : v ∈ _) k1 w (by decide)
      rcases all d hd with rfl | ⟨x, rfl, a, b⟩
      · exact k2
      · exact ln_Q a b
theorem lw7_ok {w : D} (h : Bk A i q L now) (hw : Wr [i] A w) : Nx (lw7 [o0, o1, some (.ref i), some (.int now), some (.ref q), o5, some w, o7, o8] A) fun en A1 => ∃ w2 o7, en = [o0, o1, some (.ref i), some (.int now), some (.ref q), o5, some w2, o7, o8] ∧ Wr [i] A1 w2 ∧ Bk A1 i q L now ∧ Fr [i] A A1 := by
  have hq := h.h
  have lq := lt_of_get hq
  have hi := h.d.lt
  have hll := h.l
  have hq1 : (A ++ [O.lst []])[q]? = some (.lst (L.map Ln.d)) := get_push hq
  unfold lw7
  by_cases c : L = []
  · subst c
    have ne := oNe_lst (A := A ++ [O.lst []]) (i := q) (j := A.length) (l := []) hq1 zc5 rfl
    simp_arith [hq, ne]
    exact ⟨w, o7, rfl, hw.frame .push, h.next h.d.pushed .push, .push⟩
  · have hpos : 0 < L.length := List.length_pos_iff.mpr c
    have ne := oNe_len (A := A ++ [O.lst []]) (i := q) (j := A.length) hq1 zc5 (by simpa using c)
    obtain ⟨n, A1, n1, n2, e1, d1, f1⟩ := next_ok (n := (L.length : Int)) (h.d.pushed (x := .lst [])) (by omega) (by omega)
    have b1 := (h.next (h.d.pushed (x := .lst [])) .push).next d1 f1
    have g1 := b1.h
    have ix : L[n.toNat]? = some L[n.toNat] := List.getElem?_eq_getElem (by omega)
    have hx := h.x _ (List.getElem_mem (show n.toNat < L.length by omega))
    generalize L[n.toNat] = x at ix hx
    have hA1 := d1.lt
    have gl : (A1 ++ [O.lst (List.take n.toNat (L.map Ln.d))])[q]? = some (.lst (L.map Ln.d)) := get_push g1
    have ixd : (L.map Ln.d)[n.toNat]? = some x.d := by rw [List.getElem?_map, ix]; rfl
    obtain ⟨v, A2, e2, hv, d2, f2⟩ := (bent_ok (A := A1 ++ [O.lst (List.take n.toNat (L.map Ln.d))]) d1.pushed hx.1 hx.2).ex
    have lA2 := f2.le
    simp only [List.length_append, List.length_singleton] at lA2
    have lq1 := lt_of_get g1
    have g2 := f2.get gl (by simpa using h.n)
    have g3 : A2[A1.length]? = some (.lst (List.take n.toNat (L.map Ln.d))) := f2.get zc5 (by simp; omega)
    have hs : 0 ≤ n := n1
    simp_arith [hq, ne, e1, g1, gl, ixd, e2, g2, g3]
    obtain ⟨B, hB⟩ : ∃ B, B = A2 ++ [O.lst [v]] := ⟨_, rfl⟩
    rw [← hB]
    have lB : B.length = A2.length + 1 := by rw [hB]; simp
    have k2 : B[q]? = some (.lst (L.map Ln.d)) := by rw [hB]; exact get_push g2
    have k3 : B[A1.length]? = some (.lst (List.take n.toNat (L.map Ln.d))) := by rw [hB]; exact get_push g3
    have k4 : B[A2.length]? = some (.lst [v]) := by rw [hB]; exact zc5
    have fB : Fr [i] A B := by rw [hB]; exact ((Fr.push.trans f1).trans (Fr.push.trans f2)).then_push
    have dB : Drw B i := by rw [hB]; exact d2.pushed
    have vB : Bnt [i] B v := by rw [hB]; exact hv.frame .push
    have tk : (List.take n.toNat (L.map Ln.d)).length ≤ 5 := by rw [List.length_take, List.length_map]; omega
    have k5 : (B ++ [O.lst (List.take n.toNat (L.map Ln.d) ++ [v])])[q]? = some (.lst (L.map Ln.d)) := get_push k2
    have dr : (List.drop (n + 1).toNat (L.map Ln.d)).length ≤ 5 := by rw [List.length_drop, List.length_map]; omega
    have k6 : (B ++ [O.lst (List.take n.toNat (L.map Ln.d) ++ [v])] ++ [O.lst (List.drop (n + 1).toNat (L.map Ln.d))])[B.length]? = some (.lst (List.take n.toNat (L.map Ln.d) ++ [v])) := get_push zc5
    have k7 : (B ++ [O.lst (List.take n.toNat (L.map Ln.d) ++ [v])] ++ [O.lst (List.drop (n + 1).toNat (L.map Ln.d))])[B.length + 1]? = some (.lst (List.drop (n + 1).toNat (L.map Ln.d))) := by
      rw [List.getElem?_append_right (by simp)]; simp
    clear k5 k6 k7
    refine ⟨_, _, rfl, ?_, h.next dB.pushed.pushed.pushed ?_, ?_⟩
    · refine wr_bent (L1 := L.take n.toNat) (L2 := L.drop (n + 1).toNat) (v := v) ?_ (by omega) (fun x hx => h.x x (List.mem_of_mem_take hx)) (fun x hx => h.x x (List.mem_of_mem_drop hx)) (by rw [List.length_take, List.length_drop]; omega) ?_
      · rw [List.getElem?_append_right (by simp; omega)]
        simp [List.map_take, List.map_drop, lB]
      · exact ((vB.frame .push).frame .push).frame .push
    · exact ((fB.then_push).then_push).then_push
    · exact ((fB.then_push).then_push).then_push
theorem lw8_ok {w : D} (h : Bk A i q L now) (hw : Wr [i] A w) : Nx (lw8 [o0, o1, some (.ref i), some (.int now), some (.ref q), o5, some w, o7, o8] A) fun en A1 => ∃ w2, en = [o0, o1, some (.ref i), some (.int now), some (.ref q), o5, some w2, o7, o8] ∧ Wr [i] A1 w2 ∧ Bk A1 i q L now ∧ Fr [i] A A1 := by
  obtain ⟨n, A1, n1, n2, e1, d1, f1⟩ := next_ok (n := 3) h.d (by decide) (by decide)
  have b1 := h.next d1 f1
  have hq := b1.h
  have w1 := h.w.1
  have w2 := h.w.2
  have hl := h.l
  unfold lw8
  by_cases c : n = 0
  · subst c
    obtain ⟨_, A2, e2, x, rfl, xt, xo, _, x3, d2, f2⟩ := (lline_d (t := now + 2) d1 (by omega)).ex
    obtain ⟨_, A3, e3, y, rfl, yt, yo, _, y3, d3, f3⟩ := (lline_d (t := now + 1) d2 (by omega)).ex
    have b3 := (b1.next d2 f2).next d3 f3
    have g3 := get_push (u := O.lst [x.d, y.d]) b3.h
    simp_arith [e1, e2, e3, hq, g3]
    have ok : ∀ z ∈ L ++ [x, y], LnOk z ∧ LnS z := by
      intro z hz
      rcases List.mem_append.mp hz with a | a
      · exact h.x z a
      · simp only [List.mem_cons, List.not_mem_nil, or_false] at a
        rcases a with rfl | rfl
        · exact ⟨xo, by omega, x3⟩
        · exact ⟨yo, by omega, y3⟩
    have f : Fr [i] A (A3 ++ [O.lst [x.d, y.d]] ++ [O.lst (L.map Ln.d ++ [x.d, y.d])]) := ((f1.trans (f2.trans f3)).then_push).then_push
    have gw : (A3 ++ [O.lst [x.d, y.d]] ++ [O.lst (L.map Ln.d ++ [x.d, y.d])])[A3.length + 1]? = some (.lst ((L ++ [x, y]).map Ln.d)) := by
      rw [List.getElem?_append_right (by simp)]; simp
    have lA := d3.lt
    refine ⟨_, rfl, ⟨fun B g => ?_, ?_⟩, h.next d3.pushed.pushed f, f⟩
    · refine need_falls (g.get gw (by simp; omega)) (by simp; omega) (fun z hz => (ok z hz).1) ?_
      rw [List.map_append]
      exact srt_fall (by omega)
    · refine repr_A ((ShAL.of (W := 9000) (n := 6) fun d hd => ?_).lst gw (by simp; omega)) (Nat.le_trans (Nat.mul_le_mul_right 9001 (by simp; omega : ((L ++ [x, y]).map Ln.d).length ≤ 11)) (by decide)) (by decide)
      obtain ⟨z, hz, rfl⟩ := List.mem_map.mp hd
      exact ln_A (ok z hz).1 (ok z hz).2
  · simp_arith [e1, c]
    exact ⟨w, rfl, hw.frame f1, b1, f1⟩
theorem lw9_ok {w : D} (hw : Wr [i] A w) : Nx (lw9 [o0, o1, some (.ref i), some (.int now), some (.ref q), o5, some w, o7, o8] A) fun en A1 => ∃ k, en = [o0, o1, some (.ref i), some (.int now), some (.ref q), o5, some w, o7, k] ∧ Fr [i] A A1 := by
  obtain ⟨z, hz⟩ := hw.r
  have e1 := hz A .refl
  obtain ⟨A1, p, e2, g2, f2⟩ := refused_no (hw.n A .refl)
  have ne := oNe_lst (A := A1 ++ [O.lst [.int 1]]) (i := p) (j := A1.length) (l := [.int 1]) (get_push g2) zc5 (by simp [pd_int])
  have f3 : Fr [i] A (A1 ++ [O.lst [.int 1]]) := (f2.mono (by simp)).then_push
  have e3 := hz _ f3
  unfold lw9
  simp_arith [e1, e2, ne, e3]
  exact ⟨_, rfl, f3⟩
def J0 (ns : List Int) : Nat → Sl → Hs → Prop := fun j en _ => ∃ o1 o2 o3 o4 o5 o6 o7 o8, en = [some (.scr (ns.map D.int)), o1, o2, o3, o4, o5, o6, o7, o8]
theorem lwB_ok {ns : List Int} {j : Nat} {o2 o3 o4 : Option D} : Nx (lwB [some (.scr (ns.map D.int)), some (.int (0 + (j : Int) * 1)), o2, o3, o4, o5, o6, o7, o8] A) fun en _ => ∃ o1 o2 o3 o4 o5 o6 o7 o8, en = [some (.scr (ns.map D.int)), o1, o2, o3, o4, o5, o6, o7, o8] := by
  obtain ⟨_, A1, e1, rfl, d1, f1⟩ := (draw_ok (ns := ns) (k := 0 + (j : Int) * 1) (c := 0) (A := A) (by omega)).ex
  have dB : Drw (A1 ++ [O.lst []]) A.length := d1.pushed
  obtain ⟨n, A2, n1, n2, e2, d2, f2⟩ := next_ok (n := 6) dB (by decide) (by decide)
  have lt1 := d1.lt
  have g2 : A2[A1.length]? = some (.lst []) := f2.get zc5 (by simp; omega)
  have b0 : Bk A2 A.length A1.length [] 0 := ⟨d2, g2, by omega, by simp, by simp, by simp, by simp, by simp⟩
  unfold lwB
  simp_arith [e1, e2]
  refine for_go (R := fun rs => Nx (seqR rs _) _) (fun m en B => ∃ L now o5, L.length = m ∧ en = [some (.scr (ns.map D.int)), some (.int (0 + (j : Int) * 1)), some (.ref A.length), some (.int now), some (.ref A1.length), o5, o6, o7, o8] ∧ Bk B A.length A1.length L now) ⟨[], 0, o5, rfl, rfl, b0⟩ (fun _ _ _ _ _ => trivial) ?_ ?_
  · rintro m _ B x hx ⟨L, now, o5, hL, rfl, hb⟩
    obtain ⟨rfl, hm⟩ := rgL_get hx
    show Got _ _
    rw [show gN 5 (D.int (0 + (m : Int) * 1)) [some (.scr (ns.map D.int)), some (.int (0 + (j : Int) * 1)), some (.ref A.length), some (.int now), some (.ref A1.length), o5, o6, o7, o8] B = some [some (.scr (ns.map D.int)), some (.int (0 + (j : Int) * 1)), some (.ref A.length), some (.int now), some (.ref A1.length), some (.int (0 + (m : Int) * 1)), o6, o7, o8] from rfl, z8h]
    refine nx_trn (lwI_ok hb (by omega)) ?_
    rintro _ B1 ⟨n2, x, rfl, hb1, _⟩
    exact ⟨L ++ [x], n2, _, by simp [hL], rfl, hb1⟩
  · rintro _ B ⟨L, now, o5, _, rfl, hb⟩
    simp_arith []
    refine Nx.call (fun R => Nx (seqR R _) _) (lw5_ok hb) ?_
    rintro _ B1 ⟨rfl, hb1, _⟩
    simp_arith []
    refine Nx.call (fun R => Nx (seqR R _) _) (lw6_ok hb1) ?_
    rintro _ B2 ⟨w, rfl, hw, hb2, _⟩
    simp_arith []
    refine Nx.call (fun R => Nx (seqR R _) _) (lw7_ok hb2 hw) ?_
    rintro _ B3 ⟨w, o7, rfl, hw, hb3, _⟩
    simp_arith []
    refine Nx.call (fun R => Nx (seqR R _) _) (lw8_ok hb3 hw) ?_
    rintro _ B4 ⟨w, rfl, hw, hb4, _⟩
    simp_arith []
    refine Nx.call (fun R => Nx R _) (lw9_ok hw) ?_
    rintro _ B5 ⟨k, rfl, _⟩
    exact ⟨_, _, _, _, _, _, _, _, rfl⟩
theorem law_rk (ns : List Int) (A : Hs) (hn : ns.length ≤ 63) : Rk (F_law [.scr (ns.map D.int)] A) fun v _ => v = .bl true := by
  rw [law_eq]
  simp_arith []
  refine for_go (R := fun rs => Rk (finR (seqR rs _)) _) (J0 ns) ⟨_, _, _, _, _, _, _, _, rfl⟩ (fun _ _ _ _ _ => trivial) ?_ ?_
  · rintro m _ B x hx ⟨o1, o2, o3, o4, o5, o6, o7, o8, rfl⟩
    obtain ⟨rfl, hm⟩ := rgL_get hx
    show Got _ _
    rw [show gN 1 (D.int (0 + (m : Int) * 1)) [some (.scr (ns.map D.int)), o1, o2, o3, o4, o5, o6, o7, o8] B = some [some (.scr (ns.map D.int)), some (.int (0 + (m : Int) * 1)), o2, o3, o4, o5, o6, o7, o8] from rfl, z8h]
    refine nx_trn lwB_ok ?_
    rintro _ B1 hB
    exact hB
  · rintro _ Z ⟨o1, o2, o3, o4, o5, o6, o7, o8, rfl⟩
    simp_arith []
theorem law_ex (ns : List Int) (hn : ns.length ≤ 63) (A : Hs) : ∃ A1, F_law [.scr (ns.map D.int)] A = .ok (.bl true) A1 := by
  have h := law_rk ns A hn
  generalize F_law [.scr (ns.map D.int)] A = r at h ⊢
  obtain ⟨v, A1, e, rfl⟩ := h.ex
  exact ⟨A1, e⟩
end
theorem law_true (ns : List Int) (hn : ns.length ≤ 63) : ∃ A, F_law [.scr (ns.map D.int)] [] = .ok (.bl true) A := law_ex ns hn []

end Kk

namespace Kk
open PySem L2 SM
open DL (op_addU op_subU op_mulA op_divU op_modU op_powU op_shlU op_shrU op_andU op_orU op_xorU op_ltU op_leU op_gtU op_geU op_isU op_notU call_lenU call_absU call_max2U call_min2U call_intU call_listU call_tupleU call_allU call_sumU call_isiA ix_U sl_U pi_seqU pe_dx pe_dx0 pe_mx pe_mx0 Dx Mx)
structure Txt (K : PySem.W.Frag) (mg : Str → Option Value) (ca : CaT) : Prop where
  g_NoBits : mg "NoBits" = some (.ref (ca "NoBits"))
  g_NoBook : mg "NoBook" = some (.ref (ca "NoBook"))
  g_NoCode : mg "NoCode" = some (.ref (ca "NoCode"))
  g_NoData : mg "NoData" = some (.ref (ca "NoData"))
  g_NoDeed : mg "NoDeed" = some (.ref (ca "NoDeed"))
  g_NoNumber : mg "NoNumber" = some (.ref (ca "NoNumber"))
  g_NoPacket : mg "NoPacket" = some (.ref (ca "NoPacket"))
  g_NoPlace : mg "NoPlace" = some (.ref (ca "NoPlace"))
  g_NoPort : mg "NoPort" = some (.ref (ca "NoPort"))
  g_NoSegment : mg "NoSegment" = some (.ref (ca "NoSegment"))
  g_NoSize : mg "NoSize" = some (.ref (ca "NoSize"))
  g_NoTable : mg "NoTable" = some (.ref (ca "NoTable"))
  g_NoTalk : mg "NoTalk" = some (.ref (ca "NoTalk"))
  g_NoText : mg "NoText" = some (.ref (ca "NoText"))
  g_NoTick : mg "NoTick" = some (.ref (ca "NoTick"))
  g_STANDS : mg "STANDS" = some (.ref (ca "STANDS"))
  g_WireError : mg "WireError" = some (.ref (ca "WireError"))
  e_NoBook : PySem.W.excIn K (ca "NoBook") [.type "ValueError", .type "Exception", .type "BaseException", .type "object"] "ValueError.__new__" = true
  k_NoBook : PySem.W.keepIn K (.ref (ca "NoBook")) = true
  b_NoBook : PySem.W.subIn K (.ref (ca "NoBook")) (.type "BaseException") = some true
  t_NoBook : PySem.W.typeIn K (.ref (ca "NoBook")) = some (.type "type")
  mm_WireError : AllC (fun C => PySem.W.exmOne K (.ref (ca C)) (.ref (ca "WireError")) = some true) cts_WireError
  isO : AllC (fun C => DL.InC K (ca C) ∧ btn C = false) os_
  isX : AllC (fun C => ExcC K (ca C) ∧ btn C = false) xs_
  isT : TbOk K ca tb_
  w_STANDS : ∀ F m, Rep K ca F m (.ref (ca "STANDS")) (.wt [dS "calls", dS "answers", dS "open", dS "ends", dS "left", dS "rests", dS "closed", dS "cut", dS "gone"])
  b_ValueError : mg "ValueError" = none
  b_all : mg "all" = none
  b_bool : mg "bool" = none
  b_dict : mg "dict" = none
  b_int : mg "int" = none
  b_isinstance : mg "isinstance" = none
  b_len : mg "len" = none
  b_list : mg "list" = none
  b_max : mg "max" = none
  b_min : mg "min" = none
  b_range : mg "range" = none
  b_repr : mg "repr" = none
  b_sorted : mg "sorted" = none
  b_str : mg "str" = none
  b_tuple : mg "tuple" = none
  c_BYTE : ∃ t, mg "BYTE" = some (.int 255 t)
  c_MOST_BYTE : ∃ t, mg "MOST_BYTE" = some (.int 255 t)
  c_MOST_DATA : ∃ t, mg "MOST_DATA" = some (.int 1000 t)
  c_SIZE : ∃ t, mg "SIZE" = some (.int 4294967296 t)
  one : True
abbrev N_l_mixed : List Str := ["_law_cell", "_law_k", "_law_mix"]
theorem sc_l_mixed : FnScope N_l_mixed ["_law_cell", "_law_k"] (defScope s_l_mixed) := ⟨rfl, rfl, rfl, by decide +kernel, rfl, by decide +kernel, by decide +kernel⟩
theorem ok_l_mixed {P : Program} {w : World} {K : PySem.W.Frag} {mg : Str → Option Value} {base : Heap} {a : Addr} {fd : FuncData} {ca : CaT} (T : Txt K mg ca) (F : Fun K "_law_mixed" "_law_mixed" s_l_mixed a fd)  :
    FnOk P w K mg base (L2.CX P w) 1 a fd ["_law_cell", "_law_k"] (SpF K ca F_l_mixed) := by
  refine SM.Fn.ofF F sc_l_mixed rfl fun cdv A outer s H E hr => ?_
  have nd := sc_l_mixed.nd
  refine ⟨_, (pss_cons (ps_set (i := 2) nd rfl (by first | exact Or.inl rfl | exact Or.inr rfl) (pe_op op_modU (pe_op (op_mulA (K := K)) (pe_op (op_addU (K := K)) (pe_op (op_addU (K := K)) (pv 0) (pe_op (op_mulA (K := K)) pe_int (pv 1))) pe_int) pe_int) pe_int)) (pss_one (ps_ret (pe_op op_modU (pe_op (op_addU (K := K)) (pe_op (op_mulA (K := K)) (pv 2) (pv 2)) (pe_op (op_mulA (K := K)) pe_int (pv 2))) pe_int)))), ?_⟩
  exact (ss_seq (ss_set (se_op os_mod (se_op os_mul (se_op os_add (se_op os_add se_var (se_op os_mul se_int se_var)) se_int) se_int) se_int)) (ss_ret (se_op os_mod (se_op os_add (se_op os_mul se_var se_var) (se_op os_mul se_int se_var)) se_int)))
abbrev N_l_draw : List Str := ["_law_script", "_law_k", "_law_count", "_law_cell", "_law_mixed_here"]
theorem sc_l_draw : FnScope N_l_draw ["_law_script", "_law_k", "_law_count"] (defScope s_l_draw) := ⟨rfl, rfl, rfl, by decide +kernel, rfl, by decide +kernel, by decide +kernel⟩
theorem ok_l_draw {P : Program} {w : World} {K : PySem.W.Frag} {mg : Str → Option Value} {base : Heap} {a : Addr} {fd : FuncData} {ca : CaT} (T : Txt K mg ca) (F : Fun K "_law_draw" "_law_draw" s_l_draw a fd) (C_l_mixed : Dx P w K mg base 1 "_law_mixed" (SpF K ca F_l_mixed)) :
    FnOk P w K mg base (L2.CX P w) 2 a fd ["_law_script", "_law_k", "_law_count"] (SpF K ca F_l_draw) := by
  refine SM.Fn.ofF F sc_l_draw rfl fun cdv A outer s H E hr => ?_
  have nd := sc_l_draw.nd
  refine ⟨_, (pss_cons (ps_set (i := 3) nd rfl (by first | exact Or.inl rfl | exact Or.inr rfl) pe_int) (pss_cons (ps_if (pt_cmpR op_ltU (pv 1) (pe_callB (call_lenU (K := K)) (by rfl) T.b_len (by decide +kernel) (pa_cons (pv 0) pa_nil)) (nomark _)) (pss_one (ps_set (i := 3) nd rfl (by first | exact Or.inl rfl | exact Or.inr rfl) (pe_ix (ix_U (K := K)) (pv 0) (pv 1) (fun _ _ => rfl)))) pss_nil) (pss_cons (ps_set (i := 4) nd rfl (by first | exact Or.inl rfl | exact Or.inr rfl) (pe_dx C_l_mixed (takes_of rfl rfl rfl rfl) hr (by decide) rfl (pa_cons (pv 3) (pa_cons (pe_op (op_addU (K := K)) pe_int (pv 1)) pa_nil)))) (pss_cons (ps_if (PW.pt (pw_and (pt_cmpR (op_eqPK (K := K) (DL.room65 hr)) (pe_op op_modU (pv 3) pe_int) pe_int (nomark _)) (pw_and1 (pt_cmpR op_gtU (pv 3) pe_int (nomark _))))) (pss_one (ps_ret (pe_lst (pa_cons (pe_op op_divU (pv 3) pe_int) (pa_cons (pe_un un_neg pe_int) (pa_cons (pv 4) pa_nil)))))) pss_nil) (pss_one (ps_ret (pe_lst (pa_cons (pv 4) (pa_cons (pv 2) (pa_cons pe_int pa_nil)))))))))), ?_⟩
  exact (ss_seq (ss_set se_int) (ss_seq (ss_if (st_test (se_op os_lt se_var (se_cb cs_len (sa_cons se_var sa_nil)))) (ss_set (se_op os_ix se_var se_var)) ss_next) (ss_seq (ss_set (se_call (sa_cons se_var (sa_cons (se_op os_add se_int se_var) sa_nil)))) (ss_seq (ss_if (st_and (st_test (se_op os_eq (se_op os_mod se_var se_int) se_int)) (st_test (se_op os_gt se_var se_int))) (ss_ret (se_lst (sa_cons (se_op os_div se_var se_int) (sa_cons (se_un us_neg se_int) (sa_cons se_var sa_nil))))) ss_next) (ss_ret (se_lst (sa_cons se_var (sa_cons se_var (sa_cons se_int sa_nil)))))))))
abbrev N_l_next : List Str := ["_law_draw_here", "_law_size", "_law_digit"]
theorem sc_l_next : FnScope N_l_next ["_law_draw_here", "_law_size"] (defScope s_l_next) := ⟨rfl, rfl, rfl, by decide +kernel, rfl, by decide +kernel, by decide +kernel⟩
theorem ok_l_next {P : Program} {w : World} {K : PySem.W.Frag} {mg : Str → Option Value} {base : Heap} {a : Addr} {fd : FuncData} {ca : CaT} (T : Txt K mg ca) (F : Fun K "_law_next" "_law_next" s_l_next a fd) (C_l_mixed : Dx P w K mg base 1 "_law_mixed" (SpF K ca F_l_mixed)) :
    FnOk P w K mg base (L2.CX P w) 2 a fd ["_law_draw_here", "_law_size"] (SpF K ca F_l_next) := by
  refine SM.Fn.ofF F sc_l_next rfl fun cdv A outer s H E hr => ?_
  have nd := sc_l_next.nd
  refine ⟨_, (pss_cons (ps_if (PW.pt (pw_and (pt_cmpR op_ltU (pe_ix (ix_U (K := K)) (pv 0) pe_int (fun _ _ => rfl)) pe_int (nomark _)) (pw_and1 (pt_cmpR op_gtU (pe_ix (ix_U (K := K)) (pv 0) pe_int (fun _ _ => rfl)) pe_int (nomark _))))) (pss_cons (ps_set (i := 2) nd rfl (by first | exact Or.inl rfl | exact Or.inr rfl) (pe_op op_modU (pe_ix (ix_U (K := K)) (pv 0) pe_int (fun _ _ => rfl)) (pv 1))) (pss_cons (PS.or (ps_asg (pe_op op_divU (pe_ix (ix_U (K := K)) (pv 0) pe_int (fun _ _ => rfl)) (pv 1)) (pg_sub (pv 0) pe_int set_list)) (ps_dput (DL.room65w hr) (pv 0) pe_int (pe_op op_divU (pe_ix (ix_U (K := K)) (pv 0) pe_int (fun _ _ => rfl)) (pv 1)) rfl)) (pss_one (ps_ret (pv 2))))) pss_nil) (pss_cons (ps_if (pt_cmpR op_ltU (pe_ix (ix_U (K := K)) (pv 0) pe_int (fun _ _ => rfl)) pe_int (nomark _)) (pss_cons (PS.or (ps_asg (pe_ix (ix_U (K := K)) (pv 0) pe_int (fun _ _ => rfl)) (pg_sub (pv 0) pe_int set_list)) (ps_dput (DL.room65w hr) (pv 0) pe_int (pe_ix (ix_U (K := K)) (pv 0) pe_int (fun _ _ => rfl)) rfl)) (pss_one (PS.or (ps_asg pe_int (pg_sub (pv 0) pe_int set_list)) (ps_dput (DL.room65w hr) (pv 0) pe_int pe_int rfl)))) pss_nil) (pss_cons (ps_augS (pv 0) pe_int (L2.get_listK (K := K)) pe_int (ip_addA (K := K)) set_list) (pss_one (ps_ret (pe_op op_modU (pe_op op_divU (pe_dx C_l_mixed (takes_of rfl rfl rfl rfl) hr (by decide) rfl (pa_cons (pe_ix (ix_U (K := K)) (pv 0) pe_int (fun _ _ => rfl)) (pa_cons (pe_ix (ix_U (K := K)) (pv 0) pe_int (fun _ _ => rfl)) pa_nil))) pe_int) (pv 1))))))), ?_⟩
  exact (ss_seq (ss_if (st_and (st_test (se_op os_lt (se_op os_ix se_var se_int) se_int)) (st_test (se_op os_gt (se_op os_ix se_var se_int) se_int))) (ss_seq (ss_set (se_op os_mod (se_op os_ix se_var se_int) se_var)) (ss_seq (ss_put se_var se_int (se_op os_div (se_op os_ix se_var se_int) se_var)) (ss_ret se_var))) ss_next) (ss_seq (ss_if (st_test (se_op os_lt (se_op os_ix se_var se_int) se_int)) (ss_seq (ss_put se_var se_int (se_op os_ix se_var se_int)) (ss_put se_var se_int se_int)) ss_next) (ss_seq (ss_laug ips_add se_var se_int se_int) (ss_ret (se_op os_mod (se_op os_div (se_call (sa_cons (se_op os_ix se_var se_int) (sa_cons (se_op os_ix se_var se_int) sa_nil))) se_int) se_var)))))
abbrev N_l_pick : List Str := ["_law_draw_here", "_law_some"]
theorem sc_l_pick : FnScope N_l_pick ["_law_draw_here", "_law_some"] (defScope s_l_pick) := ⟨rfl, rfl, rfl, by decide +kernel, rfl, by decide +kernel, by decide +kernel⟩
theorem ok_l_pick {P : Program} {w : World} {K : PySem.W.Frag} {mg : Str → Option Value} {base : Heap} {a : Addr} {fd : FuncData} {ca : CaT} (T : Txt K mg ca) (F : Fun K "_law_pick" "_law_pick" s_l_pick a fd) (C_l_next : Dx P w K mg base 2 "_law_next" (SpF K ca F_l_next)) :
    FnOk P w K mg base (L2.CX P w) 3 a fd ["_law_draw_here", "_law_some"] (SpF K ca F_l_pick) := by
  refine SM.Fn.ofF F sc_l_pick rfl fun cdv A outer s H E hr => ?_
  have nd := sc_l_pick.nd
  refine ⟨_, (pss_one (ps_ret (pe_ix (ix_U (K := K)) (pv 1) (pe_dx C_l_next (takes_of rfl rfl rfl rfl) hr (by decide) rfl (pa_cons (pv 0) (pa_cons (pe_callB (call_lenU (K := K)) (by rfl) T.b_len (by decide +kernel) (pa_cons (pv 1) pa_nil)) pa_nil))) (fun _ _ => rfl)))), ?_⟩
  exact (ss_ret (se_op os_ix se_var (se_call (sa_cons se_var (sa_cons (se_cb cs_len (sa_cons se_var sa_nil)) sa_nil)))))
abbrev N_l_line : List Str := ["_law_draw_here", "_law_now", "_law_word", "_law_key", "_law_more", "_law_k"]
theorem sc_l_line : FnScope N_l_line ["_law_draw_here", "_law_now"] (defScope s_l_line) := ⟨rfl, rfl, rfl, by decide +kernel, rfl, by decide +kernel, by decide +kernel⟩
theorem ok_l_line {P : Program} {w : World} {K : PySem.W.Frag} {mg : Str → Option Value} {base : Heap} {a : Addr} {fd : FuncData} {ca : CaT} (T : Txt K mg ca) (F : Fun K "_law_line" "_law_line" s_l_line a fd) (C_l_next : Dx P w K mg base 2 "_law_next" (SpF K ca F_l_next)) (C_l_pick : Dx P w K mg base 3 "_law_pick" (SpF K ca F_l_pick)) :
    FnOk P w K mg base (L2.CX P w) 4 a fd ["_law_draw_here", "_law_now"] (SpF K ca F_l_line) := by
  refine SM.Fn.ofF F sc_l_line rfl fun cdv A outer s H E hr => ?_
  have nd := sc_l_line.nd
  refine ⟨_, (pss_cons (ps_set (i := 2) nd rfl (by first | exact Or.inl rfl | exact Or.inr rfl) (pe_dx C_l_pick (takes_of rfl rfl rfl rfl) hr (by decide) rfl (pa_cons (pv 0) (pa_cons (pe_lst (pa_cons pe_str (pa_cons pe_str (pa_cons pe_str (pa_cons pe_str pa_nil))))) pa_nil)))) (pss_cons (ps_set (i := 3) nd rfl (by first | exact Or.inl rfl | exact Or.inr rfl) (pe_tup (pa_cons (pe_dx C_l_pick (takes_of rfl rfl rfl rfl) hr (by decide) rfl (pa_cons (pv 0) (pa_cons (pe_lst (pa_cons pe_int (pa_cons pe_int (pa_cons pe_int pa_nil)))) pa_nil))) (pa_cons (pe_dx C_l_next (takes_of rfl rfl rfl rfl) hr (by decide) rfl (pa_cons (pv 0) (pa_cons pe_int pa_nil))) (pa_cons (pe_dx C_l_pick (takes_of rfl rfl rfl rfl) hr (by decide) rfl (pa_cons (pv 0) (pa_cons (pe_lst (pa_cons pe_int (pa_cons pe_int (pa_cons pe_int pa_nil)))) pa_nil))) pa_nil))))) (pss_cons (ps_set (i := 4) nd rfl (by first | exact Or.inl rfl | exact Or.inr rfl) (pe_callTy (call_tupleU (K := K)) (by rfl) T.b_tuple (by decide +kernel) (pa_cons (pe_lc (own := [("_law_k", 5)]) (g := (gName 5)) rfl nd (pi_range1 rfl T.b_range (pa_cons (pe_op (op_addU (K := K)) pe_int (pe_dx C_l_next (takes_of rfl rfl rfl rfl) hr (by decide) rfl (pa_cons (pv 0) (pa_cons pe_int pa_nil)))) pa_nil)) (blkOk_by (own := [("_law_k", 5)]) (N := N_l_line) (sc := defScope s_l_line) (by decide +kernel)) (fun _ _ _ _ _ => (pg_name (i := 5) nd rfl (by first | exact Or.inl rfl | exact Or.inr rfl))) (fun _ _ _ _ _ => pts_nil) (fun _ _ _ _ _ => (pe_dx0 C_l_next hr (by decide) rfl (pa_cons (pv 0) (pa_cons pe_int pa_nil))))) pa_nil))) (pss_cons (ps_if (pt_cmpR (op_eqPK (K := K) (DL.room65 hr)) (pv 2) pe_str (nomark _)) (pss_one (ps_set (i := 4) nd rfl (by first | exact Or.inl rfl | exact Or.inr rfl) (pe_dx C_l_pick (takes_of rfl rfl rfl rfl) hr (by decide) rfl (pa_cons (pv 0) (pa_cons (pe_lst (pa_cons pe_str (pa_cons pe_str (pa_cons pe_str (pa_cons pe_str (pa_cons pe_str (pa_cons pe_str (pa_cons pe_str (pa_cons pe_str (pa_cons pe_str pa_nil)))))))))) pa_nil))))) pss_nil) (pss_cons (ps_if (pt_cmpR (op_eqPK (K := K) (DL.room65 hr)) (pv 2) pe_str (nomark _)) (pss_one (ps_set (i := 4) nd rfl (by first | exact Or.inl rfl | exact Or.inr rfl) (pe_dx C_l_pick (takes_of rfl rfl rfl rfl) hr (by decide) rfl (pa_cons (pv 0) (pa_cons (pe_lst (pa_cons pe_int (pa_cons pe_int (pa_cons (pe_op op_subU (pe_op op_powU pe_int pe_int) pe_int) pa_nil)))) pa_nil))))) pss_nil) (pss_one (ps_ret (pe_tup (pa_cons (pv 2) (pa_cons (pv 1) (pa_cons (pe_dx C_l_next (takes_of rfl rfl rfl rfl) hr (by decide) rfl (pa_cons (pv 0) (pa_cons pe_int pa_nil))) (pa_cons (pv 3) (pa_cons (pe_dx C_l_pick (takes_of rfl rfl rfl rfl) hr (by decide) rfl (pa_cons (pv 0) (pa_cons (pe_lst (pa_cons pe_int (pa_cons pe_int (pa_cons (pe_op op_subU (pe_op op_powU pe_int pe_int) pe_int) pa_nil)))) pa_nil))) (pa_cons (pv 4) pa_nil)))))))))))))), ?_⟩
  exact (ss_seq (ss_set (se_call (sa_cons se_var (sa_cons (se_lst (sa_cons (se_strS (by decide +kernel)) (sa_cons (se_strS (by decide +kernel)) (sa_cons (se_strS (by decide +kernel)) (sa_cons (se_strS (by decide +kernel)) sa_nil))))) sa_nil)))) (ss_seq (ss_set (se_tup (sa_cons (se_call (sa_cons se_var (sa_cons (se_lst (sa_cons se_int (sa_cons se_int (sa_cons se_int sa_nil)))) sa_nil))) (sa_cons (se_call (sa_cons se_var (sa_cons se_int sa_nil))) (sa_cons (se_call (sa_cons se_var (sa_cons (se_lst (sa_cons se_int (sa_cons se_int (sa_cons se_int sa_nil)))) sa_nil))) sa_nil))))) (ss_seq (ss_set (se_cb cs_tuple (sa_cons (se_lc (W2 := fun _ _ _ _ => False) (sw_r1 (sa_cons (se_op os_add se_int (se_call (sa_cons se_var (sa_cons se_int sa_nil)))) sa_nil)) sg_name (by decide) st_yes (se_call0 (sa_cons se_var (sa_cons se_int sa_nil)))) sa_nil))) (ss_seq (ss_if (st_test (se_op os_eq se_var (se_strS (by decide +kernel)))) (ss_set (se_call (sa_cons se_var (sa_cons (se_lst (sa_cons (se_strS (by decide +kernel)) (sa_cons (se_strS (by decide +kernel)) (sa_cons (se_strS (by decide +kernel)) (sa_cons (se_strS (by decide +kernel)) (sa_cons (se_strS (by decide +kernel)) (sa_cons (se_strS (by decide +kernel)) (sa_cons (se_strS (by decide +kernel)) (sa_cons (se_strS (by decide +kernel)) (sa_cons (se_strS (by decide +kernel)) sa_nil)))))))))) sa_nil)))) ss_next) (ss_seq (ss_if (st_test (se_op os_eq se_var (se_strS (by decide +kernel)))) (ss_set (se_call (sa_cons se_var (sa_cons (se_lst (sa_cons se_int (sa_cons se_int (sa_cons (se_op os_sub (se_op os_pow se_int se_int) se_int) sa_nil)))) sa_nil)))) ss_next) (ss_ret (se_tup (sa_cons se_var (sa_cons se_var (sa_cons (se_call (sa_cons se_var (sa_cons se_int sa_nil))) (sa_cons se_var (sa_cons (se_call (sa_cons se_var (sa_cons (se_lst (sa_cons se_int (sa_cons se_int (sa_cons (se_op os_sub (se_op os_pow se_int se_int) se_int) sa_nil)))) sa_nil))) (sa_cons se_var sa_nil)))))))))))))
abbrev N_l_line_bent : List Str := ["_law_draw_here", "_law_line_here", "_law_word", "_law_now", "_law_place", "_law_key", "_law_first", "_law_more", "_law_some", "_law_wrongs", "_law_wrong"]
theorem sc_l_line_bent : FnScope N_l_line_bent ["_law_draw_here", "_law_line_here"] (defScope s_l_line_bent) := ⟨rfl, rfl, rfl, by decide +kernel, rfl, by decide +kernel, by decide +kernel⟩
theorem ok_l_line_bent {P : Program} {w : World} {K : PySem.W.Frag} {mg : Str → Option Value} {base : Heap} {a : Addr} {fd : FuncData} {ca : CaT} (T : Txt K mg ca) (F : Fun K "_law_line_bent" "_law_line_bent" s_l_line_bent a fd) (C_l_pick : Dx P w K mg base 3 "_law_pick" (SpF K ca F_l_pick)) :
    FnOk P w K mg base (L2.CX P w) 4 a fd ["_law_draw_here", "_law_line_here"] (SpF K ca F_l_line_bent) := by
  refine SM.Fn.ofF F sc_l_line_bent rfl fun cdv A outer s H E hr => ?_
  have nd := sc_l_line_bent.nd
  refine ⟨_, (pss_cons (ps_asg (pv 1) (pg_tup rfl (pgs_cons (pg_name (i := 2) nd rfl (by first | exact Or.inl rfl | exact Or.inr rfl)) (pgs_cons (pg_name (i := 3) nd rfl (by first | exact Or.inl rfl | exact Or.inr rfl)) (pgs_cons (pg_name (i := 4) nd rfl (by first | exact Or.inl rfl | exact Or.inr rfl)) (pgs_cons (pg_name (i := 5) nd rfl (by first | exact Or.inl rfl | exact Or.inr rfl)) (pgs_cons (pg_name (i := 6) nd rfl (by first | exact Or.inl rfl | exact Or.inr rfl)) (pgs_cons (pg_name (i := 7) nd rfl (by first | exact Or.inl rfl | exact Or.inr rfl)) pgs_nil)))))))) (pss_cons (ps_set (i := 8) nd rfl (by first | exact Or.inl rfl | exact Or.inr rfl) (pe_lst (pa_cons (pe_slice (sl_U (K := K)) (pv 1) po_none (po_some pe_int)) (pa_cons (pe_callTy (call_listU (K := K)) (by rfl) T.b_list (by decide +kernel) (pa_cons (pv 1) pa_nil)) (pa_cons (pe_op (op_addU (K := K)) (pv 1) (pe_tup (pa_cons pe_int pa_nil))) (pa_cons pe_non (pa_cons (pe_op (op_addU (K := K)) (pe_tup (pa_cons pe_str pa_nil)) (pe_slice (sl_U (K := K)) (pv 1) (po_some pe_int) po_none)) (pa_cons (pe_op (op_addU (K := K)) (pe_tup (pa_cons pe_int pa_nil)) (pe_slice (sl_U (K := K)) (pv 1) (po_some pe_int) po_none)) (pa_cons (pe_op (op_addU (K := K)) (pe_tup (pa_cons (pv 2) (pa_cons (pe_un un_neg pe_int) pa_nil))) (pe_slice (sl_U (K := K)) (pv 1) (po_some pe_int) po_none)) pa_nil))))))))) (pss_cons (ps_set (i := 8) nd rfl (by first | exact Or.inl rfl | exact Or.inr rfl) (pe_op (op_addU (K := K)) (pv 8) (pe_lst (pa_cons (pe_op (op_addU (K := K)) (pe_tup (pa_cons (pe_lst (pa_cons (pv 2) pa_nil)) pa_nil)) (pe_slice (sl_U (K := K)) (pv 1) (po_some pe_int) po_none)) (pa_cons (pe_op (op_addU (K := K)) (pe_tup (pa_cons pe_dnewK pa_nil)) (pe_slice (sl_U (K := K)) (pv 1) (po_some pe_int) po_none)) (pa_cons (pe_op (op_addU (K := K)) (pe_slice (sl_U (K := K)) (pv 1) po_none (po_some pe_int)) (pe_tup (pa_cons pe_dnewK pa_nil))) (pa_cons (pe_op (op_addU (K := K)) (pe_slice (sl_U (K := K)) (pv 1) po_none (po_some pe_int)) (pe_tup (pa_cons (pe_lst pa_nil) pa_nil))) pa_nil))))))) (pss_cons (ps_expr (pe_bm PySem.F.plainAttrs_list PySem.F.slot_list_append PySem.F.type_list_append mt_append (pv 8) (pa_cons (pe_op (op_addU (K := K)) (pe_op (op_addU (K := K)) (pe_slice (sl_U (K := K)) (pv 1) po_none (po_some pe_int)) (pe_tup (pa_cons (pe_lst pa_nil) pa_nil))) (pe_slice (sl_U (K := K)) (pv 1) (po_some pe_int) po_none)) pa_nil))) (pss_cons (ps_set (i := 8) nd rfl (by first | exact Or.inl rfl | exact Or.inr rfl) (pe_op (op_addU (K := K)) (pv 8) (pe_lst (pa_cons (pe_op (op_addU (K := K)) (pe_tup (pa_cons (pv 2) (pa_cons pe_bl pa_nil))) (pe_slice (sl_U (K := K)) (pv 1) (po_some pe_int) po_none)) (pa_cons (pe_op (op_addU (K := K)) (pe_tup (pa_cons (pv 2) (pa_cons (pv 3) (pa_cons pe_int pa_nil)))) (pe_slice (sl_U (K := K)) (pv 1) (po_some pe_int) po_none)) (pa_cons (pe_tup (pa_cons (pv 2) (pa_cons (pv 3) (pa_cons (pv 4) (pa_cons (pe_slice (sl_U (K := K)) (pv 5) po_none (po_some pe_int)) (pa_cons (pv 6) (pa_cons (pv 7) pa_nil))))))) pa_nil)))))) (pss_cons (ps_set (i := 8) nd rfl (by first | exact Or.inl rfl | exact Or.inr rfl) (pe_op (op_addU (K := K)) (pv 8) (pe_lst (pa_cons (pe_tup (pa_cons (pv 2) (pa_cons (pv 3) (pa_cons (pv 4) (pa_cons (pe_callTy (call_listU (K := K)) (by rfl) T.b_list (by decide +kernel) (pa_cons (pv 5) pa_nil)) (pa_cons (pv 6) (pa_cons (pv 7) pa_nil))))))) (pa_cons (pe_tup (pa_cons (pv 2) (pa_cons (pv 3) (pa_cons (pv 4) (pa_cons (pv 5) (pa_cons (pe_op op_powU pe_int pe_int) (pa_cons (pv 7) pa_nil))))))) pa_nil))))) (pss_cons (ps_set (i := 8) nd rfl (by first | exact Or.inl rfl | exact Or.inr rfl) (pe_op (op_addU (K := K)) (pv 8) (pe_lst (pa_cons (pe_tup (pa_cons (pv 2) (pa_cons (pv 3) (pa_cons (pv 4) (pa_cons (pe_tup (pa_cons pe_int (pa_cons pe_int (pa_cons pe_int pa_nil)))) (pa_cons (pv 6) (pa_cons (pv 7) pa_nil))))))) (pa_cons (pe_tup (pa_cons (pv 2) (pa_cons (pv 3) (pa_cons (pv 4) (pa_cons (pv 5) (pa_cons (pe_un un_neg pe_int) (pa_cons (pv 7) pa_nil))))))) pa_nil))))) (pss_cons (ps_set (i := 9) nd rfl (by first | exact Or.inl rfl | exact Or.inr rfl) (pe_disp (pps_cons pe_str (pe_lst (pa_cons pe_str (pa_cons pe_int (pa_cons pe_non pa_nil)))) (pps_cons pe_str (pe_lst (pa_cons (pe_un un_neg pe_int) (pa_cons (pe_op op_powU pe_int pe_int) (pa_cons pe_bl (pa_cons pe_non (pa_cons pe_str pa_nil)))))) pps_nil)) rfl rfl (by intro z; cases z) (by decide))) (pss_cons (ps_set (i := 10) nd rfl (by first | exact Or.inl rfl | exact Or.inr rfl) (pe_dx C_l_pick (takes_of rfl rfl rfl rfl) hr (by decide) rfl (pa_cons (pv 0) (pa_cons (pe_dget2 (DL.room65w hr) (pv 9) (pv 2) (pe_lst (pa_cons (pe_tup pa_nil) (pa_cons (pe_tup (pa_cons pe_int pa_nil)) (pa_cons (pe_lst (pa_cons pe_int pa_nil)) (pa_cons pe_str (pa_cons (pe_tup (pa_cons pe_bl pa_nil)) (pa_cons pe_int (pa_cons (pe_op (op_mulA (K := K)) (pe_tup (pa_cons pe_int pa_nil)) pe_int) pa_nil)))))))) ⟨rfl, rfl, rfl, rfl⟩) pa_nil)))) (pss_one (ps_ret (pe_dx C_l_pick (takes_of rfl rfl rfl rfl) hr (by decide) rfl (pa_cons (pv 0) (pa_cons (pe_op (op_addU (K := K)) (pv 8) (pe_op (op_mulA (K := K)) (pe_lst (pa_cons (pe_tup (pa_cons (pv 2) (pa_cons (pv 3) (pa_cons (pv 4) (pa_cons (pv 5) (pa_cons (pv 6) (pa_cons (pv 10) pa_nil))))))) pa_nil)) pe_int)) pa_nil)))))))))))))), ?_⟩
  exact (ss_seq (ss_asg se_var (sg_tup (sgs_cons sg_name (sgs_cons sg_name (sgs_cons sg_name (sgs_cons sg_name (sgs_cons sg_name (sgs_cons sg_name sgs_nil)))))) rfl)) (ss_seq (ss_set (se_lst (sa_cons (se_sl sls_all se_var so_none (so_some se_int)) (sa_cons (se_cb cs_list (sa_cons se_var sa_nil)) (sa_cons (se_op os_add se_var (se_tup (sa_cons se_int sa_nil))) (sa_cons se_non (sa_cons (se_op os_add (se_tup (sa_cons (se_strS (by decide +kernel)) sa_nil)) (se_sl sls_all se_var (so_some se_int) so_none)) (sa_cons (se_op os_add (se_tup (sa_cons se_int sa_nil)) (se_sl sls_all se_var (so_some se_int) so_none)) (sa_cons (se_op os_add (se_tup (sa_cons se_var (sa_cons (se_un us_neg se_int) sa_nil))) (se_sl sls_all se_var (so_some se_int) so_none)) sa_nil))))))))) (ss_seq (ss_set (se_op os_add se_var (se_lst (sa_cons (se_op os_add (se_tup (sa_cons (se_lst (sa_cons se_var sa_nil)) sa_nil)) (se_sl sls_all se_var (so_some se_int) so_none)) (sa_cons (se_op os_add (se_tup (sa_cons se_dnewK sa_nil)) (se_sl sls_all se_var (so_some se_int) so_none)) (sa_cons (se_op os_add (se_sl sls_all se_var so_none (so_some se_int)) (se_tup (sa_cons se_dnewK sa_nil))) (sa_cons (se_op os_add (se_sl sls_all se_var so_none (so_some se_int)) (se_tup (sa_cons (se_lst sa_nil) sa_nil))) sa_nil))))))) (ss_seq (ss_drop (se_bl_ ms_append se_var (sa_cons (se_op os_add (se_op os_add (se_sl sls_all se_var so_none (so_some se_int)) (se_tup (sa_cons (se_lst sa_nil) sa_nil))) (se_sl sls_all se_var (so_some se_int) so_none)) sa_nil))) (ss_seq (ss_set (se_op os_add se_var (se_lst (sa_cons (se_op os_add (se_tup (sa_cons se_var (sa_cons se_bl sa_nil))) (se_sl sls_all se_var (so_some se_int) so_none)) (sa_cons (se_op os_add (se_tup (sa_cons se_var (sa_cons se_var (sa_cons se_int sa_nil)))) (se_sl sls_all se_var (so_some se_int) so_none)) (sa_cons (se_tup (sa_cons se_var (sa_cons se_var (sa_cons se_var (sa_cons (se_sl sls_all se_var so_none (so_some se_int)) (sa_cons se_var (sa_cons se_var sa_nil))))))) sa_nil)))))) (ss_seq (ss_set (se_op os_add se_var (se_lst (sa_cons (se_tup (sa_cons se_var (sa_cons se_var (sa_cons se_var (sa_cons (se_cb cs_list (sa_cons se_var sa_nil)) (sa_cons se_var (sa_cons se_var sa_nil))))))) (sa_cons (se_tup (sa_cons se_var (sa_cons se_var (sa_cons se_var (sa_cons se_var (sa_cons (se_op os_pow se_int se_int) (sa_cons se_var sa_nil))))))) sa_nil))))) (ss_seq (ss_set (se_op os_add se_var (se_lst (sa_cons (se_tup (sa_cons se_var (sa_cons se_var (sa_cons se_var (sa_cons (se_tup (sa_cons se_int (sa_cons se_int (sa_cons se_int sa_nil)))) (sa_cons se_var (sa_cons se_var sa_nil))))))) (sa_cons (se_tup (sa_cons se_var (sa_cons se_var (sa_cons se_var (sa_cons se_var (sa_cons (se_un us_neg se_int) (sa_cons se_var sa_nil))))))) sa_nil))))) (ss_seq (ss_set (se_disp (sd_cons (se_strS (by decide +kernel)) (se_lst (sa_cons (se_strS (by decide +kernel)) (sa_cons se_int (sa_cons se_non sa_nil)))) (sd_cons (se_strS (by decide +kernel)) (se_lst (sa_cons (se_un us_neg se_int) (sa_cons (se_op os_pow se_int se_int) (sa_cons se_bl (sa_cons se_non (sa_cons (se_strS (by decide +kernel)) sa_nil)))))) sd_nil)))) (ss_seq (ss_set (se_call (sa_cons se_var (sa_cons (se_get2 se_var se_var (se_lst (sa_cons (se_tup sa_nil) (sa_cons (se_tup (sa_cons se_int sa_nil)) (sa_cons (se_lst (sa_cons se_int sa_nil)) (sa_cons (se_strS (by decide +kernel)) (sa_cons (se_tup (sa_cons se_bl sa_nil)) (sa_cons se_int (sa_cons (se_op os_mul (se_tup (sa_cons se_int sa_nil)) se_int) sa_nil))))))))) sa_nil)))) (ss_ret (se_call (sa_cons se_var (sa_cons (se_op os_add se_var (se_op os_mul (se_lst (sa_cons (se_tup (sa_cons se_var (sa_cons se_var (sa_cons se_var (sa_cons se_var (sa_cons se_var (sa_cons se_var sa_nil))))))) sa_nil)) se_int)) sa_nil)))))))))))))
abbrev N_l_kinds_of : List Str := ["_law_e", "_law_some", "_law_k"]
theorem sc_l_kinds_of : FnScope N_l_kinds_of ["_law_e"] (defScope s_l_kinds_of) := ⟨rfl, rfl, rfl, by decide +kernel, rfl, by decide +kernel, by decide +kernel⟩
theorem ok_l_kinds_of {P : Program} {w : World} {K : PySem.W.Frag} {mg : Str → Option Value} {base : Heap} {a : Addr} {fd : FuncData} {ca : CaT} (T : Txt K mg ca) (F : Fun K "_law_kinds_of" "_law_kinds_of" s_l_kinds_of a fd)  :
    FnOk P w K mg base (L2.CX P w) 1 a fd ["_law_e"] (SpF K ca F_l_kinds_of) := by
  refine SM.Fn.ofF F sc_l_kinds_of rfl fun cdv A outer s H E hr => ?_
  have nd := sc_l_kinds_of.nd
  refine ⟨_, (pss_cons (ps_set (i := 1) nd rfl (by first | exact Or.inl rfl | exact Or.inr rfl) (pe_lst (pa_cons (pe_callB (call_isiA (K := K)) (by rfl) T.b_isinstance (by decide +kernel) (pa_cons (pv 0) (pa_cons (pe_glob (v := .ref (ca "NoBits")) rfl T.g_NoBits rfl) pa_nil))) (pa_cons (pe_callB (call_isiA (K := K)) (by rfl) T.b_isinstance (by decide +kernel) (pa_cons (pv 0) (pa_cons (pe_glob (v := .ref (ca "NoBook")) rfl T.g_NoBook rfl) pa_nil))) (pa_cons (pe_callB (call_isiA (K := K)) (by rfl) T.b_isinstance (by decide +kernel) (pa_cons (pv 0) (pa_cons (pe_glob (v := .ref (ca "NoCode")) rfl T.g_NoCode rfl) pa_nil))) (pa_cons (pe_callB (call_isiA (K := K)) (by rfl) T.b_isinstance (by decide +kernel) (pa_cons (pv 0) (pa_cons (pe_glob (v := .ref (ca "NoData")) rfl T.g_NoData rfl) pa_nil))) pa_nil)))))) (pss_cons (ps_set (i := 1) nd rfl (by first | exact Or.inl rfl | exact Or.inr rfl) (pe_op (op_addU (K := K)) (pv 1) (pe_lst (pa_cons (pe_callB (call_isiA (K := K)) (by rfl) T.b_isinstance (by decide +kernel) (pa_cons (pv 0) (pa_cons (pe_glob (v := .ref (ca "NoDeed")) rfl T.g_NoDeed rfl) pa_nil))) (pa_cons (pe_callB (call_isiA (K := K)) (by rfl) T.b_isinstance (by decide +kernel) (pa_cons (pv 0) (pa_cons (pe_glob (v := .ref (ca "NoNumber")) rfl T.g_NoNumber rfl) pa_nil))) (pa_cons (pe_callB (call_isiA (K := K)) (by rfl) T.b_isinstance (by decide +kernel) (pa_cons (pv 0) (pa_cons (pe_glob (v := .ref (ca "NoPacket")) rfl T.g_NoPacket rfl) pa_nil))) (pa_cons (pe_callB (call_isiA (K := K)) (by rfl) T.b_isinstance (by decide +kernel) (pa_cons (pv 0) (pa_cons (pe_glob (v := .ref (ca "NoPlace")) rfl T.g_NoPlace rfl) pa_nil))) pa_nil))))))) (pss_cons (ps_set (i := 1) nd rfl (by first | exact Or.inl rfl | exact Or.inr rfl) (pe_op (op_addU (K := K)) (pv 1) (pe_lst (pa_cons (pe_callB (call_isiA (K := K)) (by rfl) T.b_isinstance (by decide +kernel) (pa_cons (pv 0) (pa_cons (pe_glob (v := .ref (ca "NoPort")) rfl T.g_NoPort rfl) pa_nil))) (pa_cons (pe_callB (call_isiA (K := K)) (by rfl) T.b_isinstance (by decide +kernel) (pa_cons (pv 0) (pa_cons (pe_glob (v := .ref (ca "NoSegment")) rfl T.g_NoSegment rfl) pa_nil))) (pa_cons (pe_callB (call_isiA (K := K)) (by rfl) T.b_isinstance (by decide +kernel) (pa_cons (pv 0) (pa_cons (pe_glob (v := .ref (ca "NoSize")) rfl T.g_NoSize rfl) pa_nil))) (pa_cons (pe_callB (call_isiA (K := K)) (by rfl) T.b_isinstance (by decide +kernel) (pa_cons (pv 0) (pa_cons (pe_glob (v := .ref (ca "NoTable")) rfl T.g_NoTable rfl) pa_nil))) pa_nil))))))) (pss_cons (ps_set (i := 1) nd rfl (by first | exact Or.inl rfl | exact Or.inr rfl) (pe_op (op_addU (K := K)) (pv 1) (pe_lst (pa_cons (pe_callB (call_isiA (K := K)) (by rfl) T.b_isinstance (by decide +kernel) (pa_cons (pv 0) (pa_cons (pe_glob (v := .ref (ca "NoTalk")) rfl T.g_NoTalk rfl) pa_nil))) (pa_cons (pe_callB (call_isiA (K := K)) (by rfl) T.b_isinstance (by decide +kernel) (pa_cons (pv 0) (pa_cons (pe_glob (v := .ref (ca "NoText")) rfl T.g_NoText rfl) pa_nil))) (pa_cons (pe_callB (call_isiA (K := K)) (by rfl) T.b_isinstance (by decide +kernel) (pa_cons (pv 0) (pa_cons (pe_glob (v := .ref (ca "NoTick")) rfl T.g_NoTick rfl) pa_nil))) pa_nil)))))) (pss_one (ps_ret (pe_ifExp (PW.pt (pw_and (pt_val (pe_callB (call_isiA (K := K)) (by rfl) T.b_isinstance (by decide +kernel) (pa_cons (pv 0) (pa_cons (pe_glob (v := .ref (ca "WireError")) rfl T.g_WireError rfl) pa_nil)))) (pw_and1 (pt_val (pe_callB (call_isiA (K := K)) (by rfl) T.b_isinstance (by decide +kernel) (pa_cons (pv 0) (pa_cons (pe_bltn (v := .ty "ValueError") (by rfl) T.b_ValueError (by decide +kernel) rfl) pa_nil))))))) (pe_lc (own := [("_law_k", 2)]) (g := (gName 2)) rfl nd (pi_range1 rfl T.b_range (pa_cons pe_int pa_nil)) (blkOk_by (own := [("_law_k", 2)]) (N := N_l_kinds_of) (sc := defScope s_l_kinds_of) (by decide +kernel)) (fun _ _ _ _ _ => (pg_name (i := 2) nd rfl (by first | exact Or.inl rfl | exact Or.inr rfl))) (fun _ _ _ _ _ => (pts_one (pt_val (pe_ix (ix_U (K := K)) (pv 1) (pv 2) (fun _ _ => rfl))))) (fun _ _ _ _ _ => (pv 2))) (pe_lst pa_nil)))))))), ?_⟩
  exact (ss_seq (ss_set (se_lst (sa_cons (se_cb (cs_isi T.isO T.isX T.isT) (sa_cons se_var (sa_cons (se_nm rfl) sa_nil))) (sa_cons (se_cb (cs_isi T.isO T.isX T.isT) (sa_cons se_var (sa_cons (se_nm rfl) sa_nil))) (sa_cons (se_cb (cs_isi T.isO T.isX T.isT) (sa_cons se_var (sa_cons (se_nm rfl) sa_nil))) (sa_cons (se_cb (cs_isi T.isO T.isX T.isT) (sa_cons se_var (sa_cons (se_nm rfl) sa_nil))) sa_nil)))))) (ss_seq (ss_set (se_op os_add se_var (se_lst (sa_cons (se_cb (cs_isi T.isO T.isX T.isT) (sa_cons se_var (sa_cons (se_nm rfl) sa_nil))) (sa_cons (se_cb (cs_isi T.isO T.isX T.isT) (sa_cons se_var (sa_cons (se_nm rfl) sa_nil))) (sa_cons (se_cb (cs_isi T.isO T.isX T.isT) (sa_cons se_var (sa_cons (se_nm rfl) sa_nil))) (sa_cons (se_cb (cs_isi T.isO T.isX T.isT) (sa_cons se_var (sa_cons (se_nm rfl) sa_nil))) sa_nil))))))) (ss_seq (ss_set (se_op os_add se_var (se_lst (sa_cons (se_cb (cs_isi T.isO T.isX T.isT) (sa_cons se_var (sa_cons (se_nm rfl) sa_nil))) (sa_cons (se_cb (cs_isi T.isO T.isX T.isT) (sa_cons se_var (sa_cons (se_nm rfl) sa_nil))) (sa_cons (se_cb (cs_isi T.isO T.isX T.isT) (sa_cons se_var (sa_cons (se_nm rfl) sa_nil))) (sa_cons (se_cb (cs_isi T.isO T.isX T.isT) (sa_cons se_var (sa_cons (se_nm rfl) sa_nil))) sa_nil))))))) (ss_seq (ss_set (se_op os_add se_var (se_lst (sa_cons (se_cb (cs_isi T.isO T.isX T.isT) (sa_cons se_var (sa_cons (se_nm rfl) sa_nil))) (sa_cons (se_cb (cs_isi T.isO T.isX T.isT) (sa_cons se_var (sa_cons (se_nm rfl) sa_nil))) (sa_cons (se_cb (cs_isi T.isO T.isX T.isT) (sa_cons se_var (sa_cons (se_nm rfl) sa_nil))) sa_nil)))))) (ss_ret (se_if (st_and (st_b (se_cb (cs_isi T.isO T.isX T.isT) (sa_cons se_var (sa_cons (se_nm rfl) sa_nil)))) (st_b (se_cb (cs_isi T.isO T.isX T.isT) (sa_cons se_var (sa_cons se_ty sa_nil))))) (se_lc (W2 := fun _ _ _ _ => False) (sw_r1 (sa_cons se_int sa_nil)) sg_name (by decide) (st_b (se_op os_ix se_var se_var)) se_var) (se_lst sa_nil)))))))
abbrev N_is_between : List Str := ["thing", "most"]
theorem sc_is_between : FnScope N_is_between ["thing", "most"] (defScope s_is_between) := ⟨rfl, rfl, rfl, by decide +kernel, rfl, by decide +kernel, by decide +kernel⟩
theorem ok_is_between {P : Program} {w : World} {K : PySem.W.Frag} {mg : Str → Option Value} {base : Heap} {a : Addr} {fd : FuncData} {ca : CaT} (T : Txt K mg ca) (F : Fun K "is_between" "is_between" s_is_between a fd)  :
    FnOk P w K mg base (L2.CX P w) 1 a fd ["thing", "most"] (SpF K ca F_is_between) := by
  refine SM.Fn.ofF F sc_is_between rfl fun cdv A outer s H E hr => ?_
  have nd := sc_is_between.nd
  refine ⟨_, (pss_one (ps_ret (pe_and (pe_callB (call_isiA (K := K)) (by rfl) T.b_isinstance (by decide +kernel) (pa_cons (pv 0) (pa_cons (pe_bltn (v := .ty "int") (by rfl) T.b_int (by decide +kernel) rfl) pa_nil))) (pe_and (pe_not (pe_callB (call_isiA (K := K)) (by rfl) T.b_isinstance (by decide +kernel) (pa_cons (pv 0) (pa_cons (pe_bltn (v := .ty "bool") (by rfl) T.b_bool (by decide +kernel) rfl) pa_nil)))) (pe_one (pe_chain op_leU op_leU pe_int (pv 0) (pv 1))))))), ?_⟩
  exact (ss_ret (se_and (se_cb (cs_isi T.isO T.isX T.isT) (sa_cons se_var (sa_cons se_ty sa_nil))) (se_and (se_not (se_cb (cs_isi T.isO T.isX T.isT) (sa_cons se_var (sa_cons se_ty sa_nil)))) (se_ch os_le os_le se_int se_var se_var))))
abbrev N_is_whole : List Str := ["thing", "least", "most"]
theorem sc_is_whole : FnScope N_is_whole ["thing", "least", "most"] (defScope s_is_whole) := ⟨rfl, rfl, rfl, by decide +kernel, rfl, by decide +kernel, by decide +kernel⟩
theorem ok_is_whole {P : Program} {w : World} {K : PySem.W.Frag} {mg : Str → Option Value} {base : Heap} {a : Addr} {fd : FuncData} {ca : CaT} (T : Txt K mg ca) (F : Fun K "is_whole" "is_whole" s_is_whole a fd)  :
    FnOk P w K mg base (L2.CX P w) 1 a fd ["thing", "least", "most"] (SpF K ca F_is_whole) := by
  refine SM.Fn.ofF F sc_is_whole rfl fun cdv A outer s H E hr => ?_
  have nd := sc_is_whole.nd
  refine ⟨_, (pss_one (ps_ret (pe_and (pe_callB (call_isiA (K := K)) (by rfl) T.b_isinstance (by decide +kernel) (pa_cons (pv 0) (pa_cons (pe_bltn (v := .ty "int") (by rfl) T.b_int (by decide +kernel) rfl) pa_nil))) (pe_and (pe_not (pe_callB (call_isiA (K := K)) (by rfl) T.b_isinstance (by decide +kernel) (pa_cons (pv 0) (pa_cons (pe_bltn (v := .ty "bool") (by rfl) T.b_bool (by decide +kernel) rfl) pa_nil)))) (pe_one (pe_chain op_leU op_leU (pv 1) (pv 0) (pv 2))))))), ?_⟩
  exact (ss_ret (se_and (se_cb (cs_isi T.isO T.isX T.isT) (sa_cons se_var (sa_cons se_ty sa_nil))) (se_and (se_not (se_cb (cs_isi T.isO T.isX T.isT) (sa_cons se_var (sa_cons se_ty sa_nil)))) (se_ch os_le os_le se_var se_var se_var))))
abbrev N_is_data : List Str := ["thing", "byte"]
theorem sc_is_data : FnScope N_is_data ["thing"] (defScope s_is_data) := ⟨rfl, rfl, rfl, by decide +kernel, rfl, by decide +kernel, by decide +kernel⟩
theorem ok_is_data {P : Program} {w : World} {K : PySem.W.Frag} {mg : Str → Option Value} {base : Heap} {a : Addr} {fd : FuncData} {ca : CaT} (T : Txt K mg ca) (F : Fun K "is_data" "is_data" s_is_data a fd) (C_is_whole : Dx P w K mg base 1 "is_whole" (SpF K ca F_is_whole)) :
    FnOk P w K mg base (L2.CX P w) 2 a fd ["thing"] (SpF K ca F_is_data) := by
  refine SM.Fn.ofF F sc_is_data rfl fun cdv A outer s H E hr => ?_
  have nd := sc_is_data.nd
  refine ⟨_, (pss_cons (ps_if (PW.pt (pw_or (pt_not (pt_val (pe_callB (call_isiA (K := K)) (by rfl) T.b_isinstance (by decide +kernel) (pa_cons (pv 0) (pa_cons (pe_bltn (v := .ty "tuple") (by rfl) T.b_tuple (by decide +kernel) rfl) pa_nil))))) (pw_or1 (pt_cmpR op_gtU (pe_callB (call_lenU (K := K)) (by rfl) T.b_len (by decide +kernel) (pa_cons (pv 0) pa_nil)) (pe_glob (v := .int 1000) rfl T.c_MOST_DATA.choose_spec ⟨_, rfl⟩) (nomark _))))) (pss_one (ps_ret pe_bl)) pss_nil) (pss_one (ps_ret (pe_callB (call_allU (K := K) rfl) (by rfl) T.b_all (by decide +kernel) (pa_cons (pe_lc (own := [("byte", 1)]) (g := (gName 1)) rfl nd (pi_seqU (K := K) (pv 0)) (blkOk_by (own := [("byte", 1)]) (N := N_is_data) (sc := defScope s_is_data) (by decide +kernel)) (fun _ _ _ _ _ => (pg_name (i := 1) nd rfl (by first | exact Or.inl rfl | exact Or.inr rfl))) (fun _ _ _ _ _ => pts_nil) (fun _ _ _ _ _ => (pe_dx0 C_is_whole hr (by decide) rfl (pa_cons (pv 1) (pa_cons pe_int (pa_cons (pe_glob (v := .int 255) rfl T.c_MOST_BYTE.choose_spec ⟨_, rfl⟩) pa_nil)))))) pa_nil))))), ?_⟩
  exact (ss_seq (ss_if (st_or (st_not (st_b (se_cb (cs_isi T.isO T.isX T.isT) (sa_cons se_var (sa_cons se_ty sa_nil))))) (st_test (se_op os_gt (se_cb cs_len (sa_cons se_var sa_nil)) se_int))) (ss_ret se_bl) ss_next) (ss_ret (se_cb cs_all (sa_cons (se_lc (W2 := fun _ _ _ _ => False) (sw_seq se_var) sg_name (by decide) st_yes (se_call0 (sa_cons se_var (sa_cons se_int (sa_cons se_int sa_nil))))) sa_nil))))
abbrev N_is_more : List Str := ["word", "more"]
theorem sc_is_more : FnScope N_is_more ["word", "more"] (defScope s_is_more) := ⟨rfl, rfl, rfl, by decide +kernel, rfl, by decide +kernel, by decide +kernel⟩
theorem ok_is_more {P : Program} {w : World} {K : PySem.W.Frag} {mg : Str → Option Value} {base : Heap} {a : Addr} {fd : FuncData} {ca : CaT} (T : Txt K mg ca) (F : Fun K "is_more" "is_more" s_is_more a fd) (C_is_between : Dx P w K mg base 1 "is_between" (SpF K ca F_is_between)) (C_is_data : Dx P w K mg base 2 "is_data" (SpF K ca F_is_data)) :
    FnOk P w K mg base (L2.CX P w) 3 a fd ["word", "more"] (SpF K ca F_is_more) := by
  refine SM.Fn.ofF F sc_is_more rfl fun cdv A outer s H E hr => ?_
  have nd := sc_is_more.nd
  refine ⟨_, (pss_cons (ps_if (pt_cmpR (op_inAll (K := K) (DL.room65 hr)) (pv 0) (pe_tup (pa_cons pe_str (pa_cons pe_str pa_nil))) rfl) (pss_one (ps_ret (pe_and (pe_dx C_is_data (takes_of rfl rfl rfl rfl) hr (by decide) rfl (pa_cons (pv 1) pa_nil)) (pe_one (pe_cmpR op_gtU (pe_callB (call_lenU (K := K)) (by rfl) T.b_len (by decide +kernel) (pa_cons (pv 1) pa_nil)) pe_int (nomark _)))))) pss_nil) (pss_cons (ps_if (pt_cmpR (op_eqPK (K := K) (DL.room65 hr)) (pv 0) pe_str (nomark _)) (pss_one (ps_ret (pe_dx C_is_between (takes_of rfl rfl rfl rfl) hr (by decide) rfl (pa_cons (pv 1) (pa_cons (pe_op op_subU (pe_glob (v := .int 4294967296) rfl T.c_SIZE.choose_spec ⟨_, rfl⟩) pe_int) pa_nil))))) pss_nil) (pss_one (ps_ret (pe_and (pe_callB (call_isiA (K := K)) (by rfl) T.b_isinstance (by decide +kernel) (pa_cons (pv 1) (pa_cons (pe_bltn (v := .ty "str") (by rfl) T.b_str (by decide +kernel) rfl) pa_nil))) (pe_one (pe_cmpR (op_inAll (K := K) (DL.room65 hr)) (pv 1) (pe_glob (v := .ref (ca "STANDS")) rfl T.g_STANDS rfl) rfl))))))), ?_⟩
  exact (ss_seq (ss_if (st_test (se_op os_in se_var (se_tup (sa_cons (se_strS (by decide +kernel)) (sa_cons (se_strS (by decide +kernel)) sa_nil))))) (ss_ret (se_and (se_call (sa_cons se_var sa_nil)) (se_op os_gt (se_cb cs_len (sa_cons se_var sa_nil)) se_int))) ss_next) (ss_seq (ss_if (st_test (se_op os_eq se_var (se_strS (by decide +kernel)))) (ss_ret (se_call (sa_cons se_var (sa_cons (se_op os_sub se_int se_int) sa_nil)))) ss_next) (ss_ret (se_and (se_cb (cs_isi T.isO T.isX T.isT) (sa_cons se_var (sa_cons se_ty sa_nil))) (se_op os_in se_var (se_c fun F m => T.w_STANDS F m))))))
abbrev N_is_line : List Str := ["thing", "word", "at", "place", "key", "first", "more", "one"]
theorem sc_is_line : FnScope N_is_line ["thing"] (defScope s_is_line) := ⟨rfl, rfl, rfl, by decide +kernel, rfl, by decide +kernel, by decide +kernel⟩
theorem ok_is_line {P : Program} {w : World} {K : PySem.W.Frag} {mg : Str → Option Value} {base : Heap} {a : Addr} {fd : FuncData} {ca : CaT} (T : Txt K mg ca) (F : Fun K "is_line" "is_line" s_is_line a fd) (C_is_between : Dx P w K mg base 1 "is_between" (SpF K ca F_is_between)) (C_is_more : Dx P w K mg base 3 "is_more" (SpF K ca F_is_more)) :
    FnOk P w K mg base (L2.CX P w) 4 a fd ["thing"] (SpF K ca F_is_line) := by
  refine SM.Fn.ofF F sc_is_line rfl fun cdv A outer s H E hr => ?_
  have nd := sc_is_line.nd
  refine ⟨_, (pss_cons (ps_if (PW.pt (pw_or (pt_not (pt_val (pe_callB (call_isiA (K := K)) (by rfl) T.b_isinstance (by decide +kernel) (pa_cons (pv 0) (pa_cons (pe_bltn (v := .ty "tuple") (by rfl) T.b_tuple (by decide +kernel) rfl) pa_nil))))) (pw_or1 (pt_cmpR (op_nePK (K := K) (DL.room65 hr)) (pe_callB (call_lenU (K := K)) (by rfl) T.b_len (by decide +kernel) (pa_cons (pv 0) pa_nil)) pe_int (nomark _))))) (pss_one (ps_ret pe_bl)) pss_nil) (pss_cons (ps_asg (pv 0) (pg_tup rfl (pgs_cons (pg_name (i := 1) nd rfl (by first | exact Or.inl rfl | exact Or.inr rfl)) (pgs_cons (pg_name (i := 2) nd rfl (by first | exact Or.inl rfl | exact Or.inr rfl)) (pgs_cons (pg_name (i := 3) nd rfl (by first | exact Or.inl rfl | exact Or.inr rfl)) (pgs_cons (pg_name (i := 4) nd rfl (by first | exact Or.inl rfl | exact Or.inr rfl)) (pgs_cons (pg_name (i := 5) nd rfl (by first | exact Or.inl rfl | exact Or.inr rfl)) (pgs_cons (pg_name (i := 6) nd rfl (by first | exact Or.inl rfl | exact Or.inr rfl)) pgs_nil)))))))) (pss_cons (ps_if (PW.pt (pw_or (pt_not (pt_val (pe_callB (call_isiA (K := K)) (by rfl) T.b_isinstance (by decide +kernel) (pa_cons (pv 1) (pa_cons (pe_bltn (v := .ty "str") (by rfl) T.b_str (by decide +kernel) rfl) pa_nil))))) (pw_or (pt_cmpR (op_notInAll (K := K) (DL.room65 hr)) (pv 1) (pe_tup (pa_cons pe_str (pa_cons pe_str (pa_cons pe_str (pa_cons pe_str pa_nil))))) rfl) (pw_or1 (pt_not (pt_val (pe_dx C_is_more (takes_of rfl rfl rfl rfl) hr (by decide) rfl (pa_cons (pv 1) (pa_cons (pv 6) pa_nil))))))))) (pss_one (ps_ret pe_bl)) pss_nil) (pss_cons (ps_if (PW.pt (pw_or (pt_not (pt_val (pe_callB (call_isiA (K := K)) (by rfl) T.b_isinstance (by decide +kernel) (pa_cons (pv 2) (pa_cons (pe_bltn (v := .ty "int") (by rfl) T.b_int (by decide +kernel) rfl) pa_nil))))) (pw_or (pt_val (pe_callB (call_isiA (K := K)) (by rfl) T.b_isinstance (by decide +kernel) (pa_cons (pv 2) (pa_cons (pe_bltn (v := .ty "bool") (by rfl) T.b_bool (by decide +kernel) rfl) pa_nil)))) (pw_or1 (pt_cmpR op_ltU (pv 2) pe_int (nomark _)))))) (pss_one (ps_ret pe_bl)) pss_nil) (pss_cons (ps_if (PW.pt (pw_or (pt_not (pt_val (pe_callB (call_isiA (K := K)) (by rfl) T.b_isinstance (by decide +kernel) (pa_cons (pv 4) (pa_cons (pe_bltn (v := .ty "tuple") (by rfl) T.b_tuple (by decide +kernel) rfl) pa_nil))))) (pw_or (pt_cmpR (op_nePK (K := K) (DL.room65 hr)) (pe_callB (call_lenU (K := K)) (by rfl) T.b_len (by decide +kernel) (pa_cons (pv 4) pa_nil)) pe_int (nomark _)) (pw_or1 (pt_not (pt_val (pe_callB (call_allU (K := K) rfl) (by rfl) T.b_all (by decide +kernel) (pa_cons (pe_lc (own := [("one", 7)]) (g := (gName 7)) rfl nd (pi_seqU (K := K) (pv 4)) (blkOk_by (own := [("one", 7)]) (N := N_is_line) (sc := defScope s_is_line) (by decide +kernel)) (fun _ _ _ _ _ => (pg_name (i := 7) nd rfl (by first | exact Or.inl rfl | exact Or.inr rfl))) (fun _ _ _ _ _ => pts_nil) (fun _ _ _ _ _ => (pe_dx0 C_is_between hr (by decide) rfl (pa_cons (pv 7) (pa_cons (pe_glob (v := .int 255) rfl T.c_BYTE.choose_spec ⟨_, rfl⟩) pa_nil))))) pa_nil)))))))) (pss_one (ps_ret pe_bl)) pss_nil) (pss_one (ps_ret (pe_and (pe_dx C_is_between (takes_of rfl rfl rfl rfl) hr (by decide) rfl (pa_cons (pv 3) (pa_cons (pe_glob (v := .int 255) rfl T.c_BYTE.choose_spec ⟨_, rfl⟩) pa_nil))) (pe_one (pe_dx C_is_between (takes_of rfl rfl rfl rfl) hr (by decide) rfl (pa_cons (pv 5) (pa_cons (pe_op op_subU (pe_glob (v := .int 4294967296) rfl T.c_SIZE.choose_spec ⟨_, rfl⟩) pe_int) pa_nil)))))))))))), ?_⟩
  exact (ss_seq (ss_if (st_or (st_not (st_b (se_cb (cs_isi T.isO T.isX T.isT) (sa_cons se_var (sa_cons se_ty sa_nil))))) (st_test (se_op os_ne (se_cb cs_len (sa_cons se_var sa_nil)) se_int))) (ss_ret se_bl) ss_next) (ss_seq (ss_asg se_var (sg_tup (sgs_cons sg_name (sgs_cons sg_name (sgs_cons sg_name (sgs_cons sg_name (sgs_cons sg_name (sgs_cons sg_name sgs_nil)))))) rfl)) (ss_seq (ss_if (st_or (st_not (st_b (se_cb (cs_isi T.isO T.isX T.isT) (sa_cons se_var (sa_cons se_ty sa_nil))))) (st_or (st_test (se_op os_notin se_var (se_tup (sa_cons (se_strS (by decide +kernel)) (sa_cons (se_strS (by decide +kernel)) (sa_cons (se_strS (by decide +kernel)) (sa_cons (se_strS (by decide +kernel)) sa_nil))))))) (st_not (st_b (se_call (sa_cons se_var (sa_cons se_var sa_nil))))))) (ss_ret se_bl) ss_next) (ss_seq (ss_if (st_or (st_not (st_b (se_cb (cs_isi T.isO T.isX T.isT) (sa_cons se_var (sa_cons se_ty sa_nil))))) (st_or (st_b (se_cb (cs_isi T.isO T.isX T.isT) (sa_cons se_var (sa_cons se_ty sa_nil)))) (st_test (se_op os_lt se_var se_int)))) (ss_ret se_bl) ss_next) (ss_seq (ss_if (st_or (st_not (st_b (se_cb (cs_isi T.isO T.isX T.isT) (sa_cons se_var (sa_cons se_ty sa_nil))))) (st_or (st_test (se_op os_ne (se_cb cs_len (sa_cons se_var sa_nil)) se_int)) (st_not (st_b (se_cb cs_all (sa_cons (se_lc (W2 := fun _ _ _ _ => False) (sw_seq se_var) sg_name (by decide) st_yes (se_call0 (sa_cons se_var (sa_cons se_int sa_nil)))) sa_nil)))))) (ss_ret se_bl) ss_next) (ss_ret (se_and (se_call (sa_cons se_var (sa_cons se_int sa_nil))) (se_call (sa_cons se_var (sa_cons (se_op os_sub se_int se_int) sa_nil))))))))))
abbrev N_need_book : List Str := ["thing", "line", "ticks"]
theorem sc_need_book : FnScope N_need_book ["thing"] (defScope s_need_book) := ⟨rfl, rfl, rfl, by decide +kernel, rfl, by decide +kernel, by decide +kernel⟩
theorem ok_need_book {P : Program} {w : World} {K : PySem.W.Frag} {mg : Str → Option Value} {base : Heap} {a : Addr} {fd : FuncData} {ca : CaT} (T : Txt K mg ca) (F : Fun K "need_book" "need_book" s_need_book a fd) (C_is_line : Dx P w K mg base 4 "is_line" (SpF K ca F_is_line)) :
    FnOk P w K mg base (L2.CX P w) 5 a fd ["thing"] (SpF K ca F_need_book) := by
  refine SM.Fn.ofF F sc_need_book rfl fun cdv A outer s H E hr => ?_
  have nd := sc_need_book.nd
  refine ⟨_, (pss_cons (ps_if (PW.pt (pw_or (pt_not (pt_val (pe_callB (call_isiA (K := K)) (by rfl) T.b_isinstance (by decide +kernel) (pa_cons (pv 0) (pa_cons (pe_bltn (v := .ty "list") (by rfl) T.b_list (by decide +kernel) rfl) pa_nil))))) (pw_or1 (pt_not (pt_val (pe_callB (call_allU (K := K) rfl) (by rfl) T.b_all (by decide +kernel) (pa_cons (pe_lc (own := [("line", 1)]) (g := (gName 1)) rfl nd (pi_seqU (K := K) (pv 0)) (blkOk_by (own := [("line", 1)]) (N := N_need_book) (sc := defScope s_need_book) (by decide +kernel)) (fun _ _ _ _ _ => (pg_name (i := 1) nd rfl (by first | exact Or.inl rfl | exact Or.inr rfl))) (fun _ _ _ _ _ => pts_nil) (fun _ _ _ _ _ => (pe_dx0 C_is_line hr (by decide) rfl (pa_cons (pv 1) pa_nil)))) pa_nil))))))) (pss_one (DL.ps_raiseC rfl (takes_of rfl rfl rfl rfl) (pmk_own PySem.F.excBase_ValueError T.e_NoBook T.g_NoBook T.k_NoBook (raises_own T.b_NoBook T.t_NoBook) rfl))) pss_nil) (pss_cons (ps_setLc (i := 2) (own := [("line", 1)]) (g := (gName 1)) rfl nd rfl rfl (sw_true rfl rfl rfl (by decide +kernel)) (pi_seqU (K := K) (pv 0)) (blkOk_by (own := [("line", 1)]) (N := N_need_book) (sc := defScope s_need_book) (by decide +kernel)) (fun _ _ _ _ _ => (pg_name (i := 1) nd rfl (by first | exact Or.inl rfl | exact Or.inr rfl))) (fun _ _ _ _ _ => pts_nil) (fun _ _ _ _ _ => (pe_ix (ix_U (K := K)) (pv 1) pe_int (fun _ _ => rfl)))) (pss_one (ps_if (pt_cmpR (op_nePK (K := K) (DL.room65 hr)) (pv 2) (pe_callB (call_sortedA (K := K)) (by rfl) T.b_sorted (by decide +kernel) (pa_cons (pv 2) pa_nil)) (nomark _)) (pss_one (DL.ps_raiseC rfl (takes_of rfl rfl rfl rfl) (pmk_own PySem.F.excBase_ValueError T.e_NoBook T.g_NoBook T.k_NoBook (raises_own T.b_NoBook T.t_NoBook) rfl))) pss_nil)))), ?_⟩
  exact (ss_seq (ss_if (st_or (st_not (st_b (se_cb (cs_isi T.isO T.isX T.isT) (sa_cons se_var (sa_cons se_ty sa_nil))))) (st_not (st_b (se_cb cs_all (sa_cons (se_lc (W2 := fun _ _ _ _ => False) (sw_seq se_var) sg_name (by decide) st_yes (se_call0 (sa_cons se_var sa_nil))) sa_nil))))) (ss_raise rfl) ss_next) (ss_seq (ss_set (se_lc (W2 := fun _ _ _ _ => False) (sw_seq se_var) sg_name (by decide) st_yes (se_op os_ix se_var se_int))) (ss_if (st_test (se_op os_ne se_var (se_cb cs_sorted (sa_cons se_var sa_nil)))) (ss_raise rfl) ss_next)))
abbrev N_l_refused : List Str := ["_law_thing", "_law_error", "_law_e"]
theorem sc_l_refused : FnScope N_l_refused ["_law_thing"] (defScope s_l_refused) := ⟨rfl, rfl, rfl, by decide +kernel, rfl, by decide +kernel, by decide +kernel⟩
theorem ok_l_refused {P : Program} {w : World} {K : PySem.W.Frag} {mg : Str → Option Value} {base : Heap} {a : Addr} {fd : FuncData} {ca : CaT} (T : Txt K mg ca) (F : Fun K "_law_refused" "_law_refused" s_l_refused a fd) (C_l_kinds_of : Dx P w K mg base 1 "_law_kinds_of" (SpF K ca F_l_kinds_of)) (C_need_book : Dx P w K mg base 5 "need_book" (SpF K ca F_need_book)) :
    FnOk P w K mg base (L2.CX P w) 6 a fd ["_law_thing"] (SpF K ca F_l_refused) := by
  refine SM.Fn.ofF F sc_l_refused rfl fun cdv A outer s H E hr => ?_
  have nd := sc_l_refused.nd
  refine ⟨_, (pss_cons (ps_set (i := 1) nd rfl (by first | exact Or.inl rfl | exact Or.inr rfl) pe_non) (pss_cons (DL.ps_tryK (i := 2) (j := 1) rfl rfl rfl nd rfl rfl ⟨rfl, by decide, Or.inl T.g_WireError⟩ (fun W pn xe tk ps => (pss_one (ps_expr (pe_dx C_need_book tk hr (by decide) rfl (pa_cons (pv 0) pa_nil))))) (fun a oe pn => pss_one (ps_set (i := 1) nd rfl (by first | exact Or.inl rfl | exact Or.inr rfl) (pv 2))) (Nat.le_of_ble_eq_true rfl)) (pss_one (ps_ret (pe_ifExp (pt_cmpR op_isU (pv 1) pe_non (nomark _)) pe_non (pe_dx C_l_kinds_of (takes_of rfl rfl rfl rfl) hr (by decide) rfl (pa_cons (pv 1) pa_nil))))))), ?_⟩
  exact (ss_seq (ss_set se_non) (ss_seq (ss_tryK T.mm_WireError fun W2 => (ss_drop (se_call (sa_cons se_var sa_nil)))) (ss_ret (se_if (st_test (se_op os_is se_var se_non)) se_non (se_call (sa_cons se_var sa_nil))))))
abbrev N_law : List Str := ["_law_script", "_law_k", "_law_draw_here", "_law_now", "_law_book", "_law_turn", "_law_wrong", "_law_at", "_law_kept"]
theorem sc_law : FnScope N_law ["_law_script"] (defScope s_law) := ⟨rfl, rfl, rfl, by decide +kernel, rfl, by decide +kernel, by decide +kernel⟩
theorem ok_law {P : Program} {w : World} {K : PySem.W.Frag} {mg : Str → Option Value} {base : Heap} {a : Addr} {fd : FuncData} {ca : CaT} (T : Txt K mg ca) (F : Fun K "law" "law" s_law a fd) (C_l_draw : Dx P w K mg base 2 "_law_draw" (SpF K ca F_l_draw)) (C_l_line : Dx P w K mg base 4 "_law_line" (SpF K ca F_l_line)) (C_l_line_bent : Dx P w K mg base 4 "_law_line_bent" (SpF K ca F_l_line_bent)) (C_l_next : Dx P w K mg base 2 "_law_next" (SpF K ca F_l_next)) (C_l_pick : Dx P w K mg base 3 "_law_pick" (SpF K ca F_l_pick)) (C_l_refused : Dx P w K mg base 6 "_law_refused" (SpF K ca F_l_refused)) (C_need_book : Dx P w K mg base 5 "need_book" (SpF K ca F_need_book)) :
    L2.FnG P w K mg base CX0 7 a fd ["_law_script"] (SpF K ca F_law) := by
  refine SM.Fn.ofG0 F sc_law rfl fun cdv A outer s H E hgd hr => ?_
  have nd := sc_law.nd
  refine ⟨_, (pss_cons (ps_for PassesOwn.never rfl (pi_range1 rfl T.b_range (pa_cons (pe_callB (call_max2U rfl) (by rfl) T.b_max (by decide +kernel) (pa_cons pe_int (pa_cons (pe_callB (call_min2U rfl) (by rfl) T.b_min (by decide +kernel) (pa_cons (pe_callB (call_lenU (K := K)) (by rfl) T.b_len (by decide +kernel) (pa_cons (pv 0) pa_nil)) (pa_cons pe_int pa_nil))) pa_nil))) pa_nil)) (pg_name (i := 1) nd rfl (by first | exact Or.inl rfl | exact Or.inr rfl)) (pss_cons (ps_set (i := 2) nd rfl (by first | exact Or.inl rfl | exact Or.inr rfl) (pe_dx0 C_l_draw hr (by decide) rfl (pa_cons (pv 0) (pa_cons (pv 1) (pa_cons pe_int pa_nil))))) (pss_cons (ps_set (i := 3) nd rfl (by first | exact Or.inl rfl | exact Or.inr rfl) pe_int) (pss_cons (ps_set (i := 4) nd rfl (by first | exact Or.inl rfl | exact Or.inr rfl) (pe_lst pa_nil)) (pss_cons (ps_for PassesOwn.never rfl (pi_range1 rfl T.b_range (pa_cons (pe_dx0 C_l_next hr (by decide) rfl (pa_cons (pv 2) (pa_cons pe_int pa_nil))) pa_nil)) (pg_name (i := 5) nd rfl (by first | exact Or.inl rfl | exact Or.inr rfl)) (pss_cons (ps_set (i := 3) nd rfl (by first | exact Or.inl rfl | exact Or.inr rfl) (pe_op (op_addU (K := K)) (pv 3) (pe_dx0 C_l_pick hr (by decide) rfl (pa_cons (pv 2) (pa_cons (pe_lst (pa_cons pe_int (pa_cons pe_int (pa_cons pe_int (pa_cons pe_int pa_nil))))) pa_nil))))) (pss_one (ps_expr (pe_bm PySem.F.plainAttrs_list PySem.F.slot_list_append PySem.F.type_list_append mt_append (pv 4) (pa_cons (pe_dx0 C_l_line hr (by decide) rfl (pa_cons (pv 2) (pa_cons (pv 3) pa_nil))) pa_nil)))))) (pss_cons (ps_if (PW.pt (pw_or (pt_cmpR op_notU (pe_dx0 C_l_refused hr (by decide) rfl (pa_cons (pv 4) pa_nil)) pe_non (nomark _)) (pw_or (pt_cmpR op_notU (pe_dx0 C_need_book hr (by decide) rfl (pa_cons (pv 4) pa_nil)) pe_non (nomark _)) (pw_or1 (pt_cmpR (op_nePK (K := K) (DL.room65 hr)) (pe_dx0 C_l_refused hr (by decide) rfl (pa_cons (pe_callTy (call_tupleU (K := K)) (by rfl) T.b_tuple (by decide +kernel) (pa_cons (pv 4) pa_nil)) pa_nil)) (pe_lst (pa_cons pe_int pa_nil)) (nomark _)))))) (pss_one (ps_ret pe_bl)) pss_nil) (pss_cons (ps_set (i := 6) nd rfl (by first | exact Or.inl rfl | exact Or.inr rfl) (pe_dx0 C_l_pick hr (by decide) rfl (pa_cons (pv 2) (pa_cons (pe_lst (pa_cons pe_non (pa_cons pe_int (pa_cons pe_str (pa_cons (pe_callTy (call_dictA (K := K) rfl) (by rfl) T.b_dict (by decide +kernel) (pa_cons (pe_lst (pa_cons (pe_tup (pa_cons pe_int (pa_cons pe_int pa_nil))) pa_nil)) pa_nil)) (pa_cons (pe_lst (pa_cons pe_non pa_nil)) (pa_cons (pe_lst (pa_cons (pe_tup pa_nil) pa_nil)) (pa_cons (pe_lst (pa_cons pe_int pa_nil)) pa_nil)))))))) pa_nil)))) (pss_cons (ps_if (pt_cmpR (op_nePK (K := K) (DL.room65 hr)) (pv 4) (pe_lst pa_nil) (nomark _)) (pss_cons (ps_set (i := 7) nd rfl (by first | exact Or.inl rfl | exact Or.inr rfl) (pe_dx0 C_l_next hr (by decide) rfl (pa_cons (pv 2) (pa_cons (pe_callB (call_lenU (K := K)) (by rfl) T.b_len (by decide +kernel) (pa_cons (pv 4) pa_nil)) pa_nil)))) (pss_one (ps_set (i := 6) nd rfl (by first | exact Or.inl rfl | exact Or.inr rfl) (pe_op (op_addU (K := K)) (pe_op (op_addU (K := K)) (pe_slice (sl_U (K := K)) (pv 4) po_none (po_some (pv 7))) (pe_lst (pa_cons (pe_dx0 C_l_line_bent hr (by decide) rfl (pa_cons (pv 2) (pa_cons (pe_ix (ix_U (K := K)) (pv 4) (pv 7) (fun _ _ => rfl)) pa_nil))) pa_nil))) (pe_slice (sl_U (K := K)) (pv 4) (po_some (pe_op (op_addU (K := K)) (pv 7) pe_int)) po_none))))) pss_nil) (pss_cons (ps_if (pt_cmpR (op_eqPK (K := K) (DL.room65 hr)) (pe_dx0 C_l_next hr (by decide) rfl (pa_cons (pv 2) (pa_cons pe_int pa_nil))) pe_int (nomark _)) (pss_one (ps_set (i := 6) nd rfl (by first | exact Or.inl rfl | exact Or.inr rfl) (pe_op (op_addU (K := K)) (pv 4) (pe_lst (pa_cons (pe_dx0 C_l_line hr (by decide) rfl (pa_cons (pv 2) (pa_cons (pe_op (op_addU (K := K)) (pv 3) pe_int) pa_nil))) (pa_cons (pe_dx0 C_l_line hr (by decide) rfl (pa_cons (pv 2) (pa_cons (pe_op (op_addU (K := K)) (pv 3) pe_int) pa_nil))) pa_nil)))))) pss_nil) (pss_cons (ps_set (i := 8) nd rfl (by first | exact Or.inl rfl | exact Or.inr rfl) (pe_callB (L2.call_reprZ hgd (DL.room65 hr)) (by rfl) T.b_repr (by decide +kernel) (pa_cons (pv 6) pa_nil))) (pss_one (ps_if (PW.pt (pw_or (pt_cmpR (op_nePK (K := K) (DL.room65 hr)) (pe_dx0 C_l_refused hr (by decide) rfl (pa_cons (pv 6) pa_nil)) (pe_lst (pa_cons pe_int pa_nil)) (nomark _)) (pw_or1 (pt_cmpR (op_nePK (K := K) (DL.room65 hr)) (pe_callB (L2.call_reprZ hgd (DL.room65 hr)) (by rfl) T.b_repr (by decide +kernel) (pa_cons (pv 6) pa_nil)) (pv 8) (nomark _))))) (pss_one (ps_ret pe_bl)) pss_nil)))))))))))) (pss_one (ps_ret pe_bl))), ?_⟩
  exact (ss_seq (ss_for (sw_r1 (sa_cons (se_cb cs_max2 (sa_cons se_int (sa_cons (se_cb cs_min2 (sa_cons (se_cb cs_len (sa_cons se_var sa_nil)) (sa_cons se_int sa_nil))) sa_nil))) sa_nil)) sg_name (ss_seq (ss_set (se_call0 (sa_cons se_var (sa_cons se_var (sa_cons se_int sa_nil))))) (ss_seq (ss_set se_int) (ss_seq (ss_set (se_lst sa_nil)) (ss_seq (ss_for (sw_r1 (sa_cons (se_call0 (sa_cons se_var (sa_cons se_int sa_nil))) sa_nil)) sg_name (ss_seq (ss_set (se_op os_add se_var (se_call0 (sa_cons se_var (sa_cons (se_lst (sa_cons se_int (sa_cons se_int (sa_cons se_int (sa_cons se_int sa_nil))))) sa_nil))))) (ss_drop (se_bl_ ms_append se_var (sa_cons (se_call0 (sa_cons se_var (sa_cons se_var sa_nil))) sa_nil))))) (ss_seq (ss_if (st_or (st_test (se_op os_isnot (se_call0 (sa_cons se_var sa_nil)) se_non)) (st_or (st_test (se_op os_isnot (se_call0 (sa_cons se_var sa_nil)) se_non)) (st_test (se_op os_ne (se_call0 (sa_cons (se_cb cs_tuple (sa_cons se_var sa_nil)) sa_nil)) (se_lst (sa_cons se_int sa_nil)))))) (ss_ret se_bl) ss_next) (ss_seq (ss_set (se_call0 (sa_cons se_var (sa_cons (se_lst (sa_cons se_non (sa_cons se_int (sa_cons (se_strS (by decide +kernel)) (sa_cons (se_cb cs_dict (sa_cons (se_lst (sa_cons (se_tup (sa_cons se_int (sa_cons se_int sa_nil))) sa_nil)) sa_nil)) (sa_cons (se_lst (sa_cons se_non sa_nil)) (sa_cons (se_lst (sa_cons (se_tup sa_nil) sa_nil)) (sa_cons (se_lst (sa_cons se_int sa_nil)) sa_nil)))))))) sa_nil)))) (ss_seq (ss_if (st_test (se_op os_ne se_var (se_lst sa_nil))) (ss_seq (ss_set (se_call0 (sa_cons se_var (sa_cons (se_cb cs_len (sa_cons se_var sa_nil)) sa_nil)))) (ss_set (se_op os_add (se_op os_add (se_sl sls_all se_var so_none (so_some se_var)) (se_lst (sa_cons (se_call0 (sa_cons se_var (sa_cons (se_op os_ix se_var se_var) sa_nil))) sa_nil))) (se_sl sls_all se_var (so_some (se_op os_add se_var se_int)) so_none)))) ss_next) (ss_seq (ss_if (st_test (se_op os_eq (se_call0 (sa_cons se_var (sa_cons se_int sa_nil))) se_int)) (ss_set (se_op os_add se_var (se_lst (sa_cons (se_call0 (sa_cons se_var (sa_cons (se_op os_add se_var se_int) sa_nil))) (sa_cons (se_call0 (sa_cons se_var (sa_cons (se_op os_add se_var se_int) sa_nil))) sa_nil))))) ss_next) (ss_seq (ss_set (se_cb cs_repr (sa_cons se_var sa_nil))) (ss_if (st_or (st_test (se_op os_ne (se_call0 (sa_cons se_var sa_nil)) (se_lst (sa_cons se_int sa_nil)))) (st_test (se_op os_ne (se_cb cs_repr (sa_cons se_var sa_nil)) se_var))) (ss_ret se_bl) ss_next))))))))))) (ss_ret se_bl))
def spLaw (K : PySem.W.Frag) : Sp := fun vs H Q _ => ∃ (a : Addr) (ns : List Int), vs = [.ref a] ∧ SqL K H a (ns.map V.int) ∧ ns.length ≤ 63 ∧ ∀ H1, Q (.bl true) H1
theorem law_imp {K : PySem.W.Frag} {ca : CaT} (hT : ca.T = []) : ∀ (vs : List V) (H : Hp) (Q : VK) (E : XK), spLaw K vs H Q E → SpF K ca F_law vs H Q E := fun vs H Q E ⟨a, ns, e, h, hl, k⟩ => by
  subst e
  obtain ⟨A, hA⟩ := law_true ns hl
  refine ⟨SM.noT H, [], [], [.scr (ns.map D.int)], Rl.start (by rw [hT]; simp), .cons (.scr (SM.SqL.noT h) RepL.of_ints) .nil, ?_⟩
  rw [hA]
  intro v F' m' H' _ _ r
  cases r
  exact k H'
def caL (K : Hk.Fk) : CaT := ⟨fun x => He.ga K x, []⟩
theorem txt_ok {w : World} {K : Hk.Fk} {h : Heap} {mg : Str → Option Value} (X : K.In h) (G : h.Ns mainGlobals mg) (c : Hk.SaysK Hx.exs Hx.fn Hx.ts w K) : Txt K mg (caL K) :=
  ⟨PySem.W.mg_of X G (Hx.g_NoBits c),
   PySem.W.mg_of X G (Hx.g_NoBook c),
   PySem.W.mg_of X G (Hx.g_NoCode c),
   PySem.W.mg_of X G (Hx.g_NoData c),
   PySem.W.mg_of X G (Hx.g_NoDeed c),
   PySem.W.mg_of X G (Hx.g_NoNumber c),
   PySem.W.mg_of X G (Hx.g_NoPacket c),
   PySem.W.mg_of X G (Hx.g_NoPlace c),
   PySem.W.mg_of X G (Hx.g_NoPort c),
   PySem.W.mg_of X G (Hx.g_NoSegment c),
   PySem.W.mg_of X G (Hx.g_NoSize c),
   PySem.W.mg_of X G (Hx.g_NoTable c),
   PySem.W.mg_of X G (Hx.g_NoTalk c),
   PySem.W.mg_of X G (Hx.g_NoText c),
   PySem.W.mg_of X G (Hx.g_NoTick c),
   PySem.W.mg_of X G (Hx.g_STANDS c),
   PySem.W.mg_of X G (Hx.g_WireError c),
   (Hx.e_NoBook c),
   (Hx.k_NoBook c),
   (Hx.b_NoBook c),
   (Hx.t_NoBook c),
   ⟨(Hx.mm_WireError_NoBook c), trivial⟩,
   trivial,
   ⟨⟨(Hx.x_NoBook c), by decide⟩, trivial⟩,
   (by unfold tb_; exact .cons (by simpa [vOf, btn, caL] using (Hx.i_NoBook_NoBits c)) (.cons (by simpa [vOf, btn, caL] using (Hx.i_NoBook_NoBook c)) (.cons (by simpa [vOf, btn, caL] using (Hx.i_NoBook_NoCode c)) (.cons (by simpa [vOf, btn, caL] using (Hx.i_NoBook_NoData c)) (.cons (by simpa [vOf, btn, caL] using (Hx.i_NoBook_NoDeed c)) (.cons (by simpa [vOf, btn, caL] using (Hx.i_NoBook_NoNumber c)) (.cons (by simpa [vOf, btn, caL] using (Hx.i_NoBook_NoPacket c)) (.cons (by simpa [vOf, btn, caL] using (Hx.i_NoBook_NoPlace c)) (.cons (by simpa [vOf, btn, caL] using (Hx.i_NoBook_NoPort c)) (.cons (by simpa [vOf, btn, caL] using (Hx.i_NoBook_NoSegment c)) (.cons (by simpa [vOf, btn, caL] using (Hx.i_NoBook_NoSize c)) (.cons (by simpa [vOf, btn, caL] using (Hx.i_NoBook_NoTable c)) (.cons (by simpa [vOf, btn, caL] using (Hx.i_NoBook_NoTalk c)) (.cons (by simpa [vOf, btn, caL] using (Hx.i_NoBook_NoText c)) (.cons (by simpa [vOf, btn, caL] using (Hx.i_NoBook_NoTick c)) (.cons (by simpa [vOf, btn, caL] using (Hx.i_NoBook_WireError c)) (.cons (by simpa [vOf, btn, caL] using (Hx.i_NoBook_ValueError c)) (.cons (by simpa [vOf, btn, caL] using (Hx.i_NoBook_bool c)) (.cons (by simpa [vOf, btn, caL] using (Hx.i_NoBook_int c)) (.cons (by simpa [vOf, btn, caL] using (Hx.i_NoBook_list c)) (.cons (by simpa [vOf, btn, caL] using (Hx.i_NoBook_str c)) (.cons (by simpa [vOf, btn, caL] using (Hx.i_NoBook_tuple c)) (.nil))))))))))))))))))))))),
   KTplS.rep (ts := ["calls", "answers", "open", "ends", "left", "rests", "closed", "cut", "gone"]) (by decide +kernel) (Hx.kt_STANDS c),
   PySem.W.mg_none_of X G (Hx.z_ValueError c),
   PySem.W.mg_none_of X G (Hx.z_all c),
   PySem.W.mg_none_of X G (Hx.z_bool c),
   PySem.W.mg_none_of X G (Hx.z_dict c),
   PySem.W.mg_none_of X G (Hx.z_int c),
   PySem.W.mg_none_of X G (Hx.z_isinstance c),
   PySem.W.mg_none_of X G (Hx.z_len c),
   PySem.W.mg_none_of X G (Hx.z_list c),
   PySem.W.mg_none_of X G (Hx.z_max c),
   PySem.W.mg_none_of X G (Hx.z_min c),
   PySem.W.mg_none_of X G (Hx.z_range c),
   PySem.W.mg_none_of X G (Hx.z_repr c),
   PySem.W.mg_none_of X G (Hx.z_sorted c),
   PySem.W.mg_none_of X G (Hx.z_str c),
   PySem.W.mg_none_of X G (Hx.z_tuple c),
   Hk.intB_ok X G (Hx.y_BYTE c),
   Hk.intB_ok X G (Hx.y_MOST_BYTE c),
   Hk.intB_ok X G (Hx.y_MOST_DATA c),
   Hk.intB_ok X G (Hx.y_SIZE c),
   True.intro⟩
theorem all_mk {l : PySem.W.OpenLaw} {w : World} {K : Hk.Fk} {h : Heap} {mg : Str → Option Value} {fa : Addr} (X : K.In h) (G : h.Ns mainGlobals mg) (hfa : mg "law" = some (.ref fa)) (c : Hk.SaysK Hx.exs Hx.fn Hx.ts w K) :
    ∃ fd : FuncData, (∀ (s : Shared) (v : Value), BindsTo s fd ⟨[v], []⟩ [("_law_script", v)]) ∧ ∀ base : Heap, K.In base → base.Ns mainGlobals mg → L2.FnG l.prog w K mg base CX0 7 fa fd ["_law_script"] (spLaw K) := by
  have e := hfa.symm.trans (PySem.W.mg_of X G (Hx.a14 c))
  cases e
  have T := txt_ok X G c
  obtain ⟨fd0, F0⟩ := Hx.F0 c
  have b0 := F0.binds (ps := ["_law_cell", "_law_k"]) fun _ _ _ _ _ _ us hl => match us, hl with | [_, _], _ => rfl
  obtain ⟨fd1, F1⟩ := Hx.F1 c
  have b1 := F1.binds (ps := ["_law_script", "_law_k", "_law_count"]) fun _ _ _ _ _ _ us hl => match us, hl with | [_, _, _], _ => rfl
  obtain ⟨fd2, F2⟩ := Hx.F2 c
  have b2 := F2.binds (ps := ["_law_draw_here", "_law_size"]) fun _ _ _ _ _ _ us hl => match us, hl with | [_, _], _ => rfl
  obtain ⟨fd3, F3⟩ := Hx.F3 c
  have b3 := F3.binds (ps := ["_law_draw_here", "_law_some"]) fun _ _ _ _ _ _ us hl => match us, hl with | [_, _], _ => rfl
  obtain ⟨fd4, F4⟩ := Hx.F4 c
  have b4 := F4.binds (ps := ["_law_draw_here", "_law_now"]) fun _ _ _ _ _ _ us hl => match us, hl with | [_, _], _ => rfl
  obtain ⟨fd5, F5⟩ := Hx.F5 c
  have b5 := F5.binds (ps := ["_law_draw_here", "_law_line_here"]) fun _ _ _ _ _ _ us hl => match us, hl with | [_, _], _ => rfl
  obtain ⟨fd6, F6⟩ := Hx.F6 c
  have b6 := F6.binds (ps := ["_law_e"]) fun _ _ _ _ _ _ us hl => match us, hl with | [_], _ => rfl
  obtain ⟨fd7, F7⟩ := Hx.F7 c
  have b7 := F7.binds (ps := ["thing", "most"]) fun _ _ _ _ _ _ us hl => match us, hl with | [_, _], _ => rfl
  obtain ⟨fd8, F8⟩ := Hx.F8 c
  have b8 := F8.binds (ps := ["thing", "least", "most"]) fun _ _ _ _ _ _ us hl => match us, hl with | [_, _, _], _ => rfl
  obtain ⟨fd9, F9⟩ := Hx.F9 c
  have b9 := F9.binds (ps := ["thing"]) fun _ _ _ _ _ _ us hl => match us, hl with | [_], _ => rfl
  obtain ⟨fd10, F10⟩ := Hx.F10 c
  have b10 := F10.binds (ps := ["word", "more"]) fun _ _ _ _ _ _ us hl => match us, hl with | [_, _], _ => rfl
  obtain ⟨fd11, F11⟩ := Hx.F11 c
  have b11 := F11.binds (ps := ["thing"]) fun _ _ _ _ _ _ us hl => match us, hl with | [_], _ => rfl
  obtain ⟨fd12, F12⟩ := Hx.F12 c
  have b12 := F12.binds (ps := ["thing"]) fun _ _ _ _ _ _ us hl => match us, hl with | [_], _ => rfl
  obtain ⟨fd13, F13⟩ := Hx.F13 c
  have b13 := F13.binds (ps := ["_law_thing"]) fun _ _ _ _ _ _ us hl => match us, hl with | [_], _ => rfl
  obtain ⟨fd14, F14⟩ := Hx.F14 c
  have b14 := F14.binds (ps := ["_law_script"]) fun _ _ _ _ _ _ us hl => match us, hl with | [_], _ => rfl
  refine ⟨fd14, fun s v => ?_, fun base _ _ => ?_⟩
  · obtain ⟨oc, od, kV, doc, pm, an, cdv, ct, osl, rfl, lk, hcd⟩ := F14.ex
    exact .of_eq rfl
  have C_l_mixed : Dx l.prog w K mg base 1 "_law_mixed" (SpF K (caL K) F_l_mixed) := Dx.of2 (ok_l_mixed (P := l.prog) (w := w) (mg := mg) (base := base) T F0 ) F0 (PySem.W.mg_of X G (Hx.a0 c)) b0
  have C_l_draw : Dx l.prog w K mg base 2 "_law_draw" (SpF K (caL K) F_l_draw) := Dx.of2 (ok_l_draw (P := l.prog) (w := w) (mg := mg) (base := base) T F1 C_l_mixed) F1 (PySem.W.mg_of X G (Hx.a1 c)) b1
  have C_l_next : Dx l.prog w K mg base 2 "_law_next" (SpF K (caL K) F_l_next) := Dx.of2 (ok_l_next (P := l.prog) (w := w) (mg := mg) (base := base) T F2 C_l_mixed) F2 (PySem.W.mg_of X G (Hx.a2 c)) b2
  have C_l_pick : Dx l.prog w K mg base 3 "_law_pick" (SpF K (caL K) F_l_pick) := Dx.of2 (ok_l_pick (P := l.prog) (w := w) (mg := mg) (base := base) T F3 C_l_next) F3 (PySem.W.mg_of X G (Hx.a3 c)) b3
  have C_l_line : Dx l.prog w K mg base 4 "_law_line" (SpF K (caL K) F_l_line) := Dx.of2 (ok_l_line (P := l.prog) (w := w) (mg := mg) (base := base) T F4 C_l_next C_l_pick) F4 (PySem.W.mg_of X G (Hx.a4 c)) b4
  have C_l_line_bent : Dx l.prog w K mg base 4 "_law_line_bent" (SpF K (caL K) F_l_line_bent) := Dx.of2 (ok_l_line_bent (P := l.prog) (w := w) (mg := mg) (base := base) T F5 C_l_pick) F5 (PySem.W.mg_of X G (Hx.a5 c)) b5
  have C_l_kinds_of : Dx l.prog w K mg base 1 "_law_kinds_of" (SpF K (caL K) F_l_kinds_of) := Dx.of2 (ok_l_kinds_of (P := l.prog) (w := w) (mg := mg) (base := base) T F6 ) F6 (PySem.W.mg_of X G (Hx.a6 c)) b6
  have C_is_between : Dx l.prog w K mg base 1 "is_between" (SpF K (caL K) F_is_between) := Dx.of2 (ok_is_between (P := l.prog) (w := w) (mg := mg) (base := base) T F7 ) F7 (PySem.W.mg_of X G (Hx.a7 c)) b7
  have C_is_whole : Dx l.prog w K mg base 1 "is_whole" (SpF K (caL K) F_is_whole) := Dx.of2 (ok_is_whole (P := l.prog) (w := w) (mg := mg) (base := base) T F8 ) F8 (PySem.W.mg_of X G (Hx.a8 c)) b8
  have C_is_data : Dx l.prog w K mg base 2 "is_data" (SpF K (caL K) F_is_data) := Dx.of2 (ok_is_data (P := l.prog) (w := w) (mg := mg) (base := base) T F9 C_is_whole) F9 (PySem.W.mg_of X G (Hx.a9 c)) b9
  have C_is_more : Dx l.prog w K mg base 3 "is_more" (SpF K (caL K) F_is_more) := Dx.of2 (ok_is_more (P := l.prog) (w := w) (mg := mg) (base := base) T F10 C_is_between C_is_data) F10 (PySem.W.mg_of X G (Hx.a10 c)) b10
  have C_is_line : Dx l.prog w K mg base 4 "is_line" (SpF K (caL K) F_is_line) := Dx.of2 (ok_is_line (P := l.prog) (w := w) (mg := mg) (base := base) T F11 C_is_between C_is_more) F11 (PySem.W.mg_of X G (Hx.a11 c)) b11
  have C_need_book : Dx l.prog w K mg base 5 "need_book" (SpF K (caL K) F_need_book) := Dx.of2 (ok_need_book (P := l.prog) (w := w) (mg := mg) (base := base) T F12 C_is_line) F12 (PySem.W.mg_of X G (Hx.a12 c)) b12
  have C_l_refused : Dx l.prog w K mg base 6 "_law_refused" (SpF K (caL K) F_l_refused) := Dx.of2 (ok_l_refused (P := l.prog) (w := w) (mg := mg) (base := base) T F13 C_l_kinds_of C_need_book) F13 (PySem.W.mg_of X G (Hx.a13 c)) b13
  exact (ok_law T F14 C_l_draw C_l_line C_l_line_bent C_l_next C_l_pick C_l_refused C_need_book).imp (law_imp rfl)
end Kk
open PySem PySem.W PyProof.Rows PySem.Calls in
set_option maxRecDepth 100000 in
set_option maxHeartbeats 0 in
theorem PySem.Challenge.cw_surewire_k99_forms_of_books_holds : PySem.Challenge.rw_surewire_k99_forms_of_books.Holds := by
  w_on; o_law
  refine HandSHeadRun.head_any (r := OpenLaw.row PySem.Challenge.rw_surewire_k99_forms_of_books) (q := Hx.qv) (H := Hx.hk) (ob := Hx.ob) (M := 5976) (loose := Hx.names) (d := HandSHeadRun.topDef (OpenLaw.row PySem.Challenge.rw_surewire_k99_forms_of_books).prog 39) (kwd := []) Hx.ob_eq (by kernel_rfl) (fun s => by kernel_rfl) Hx.run (by kernel_rfl) (by kernel_rfl) (by kernel_rfl) (by rfl) (by first | assumption | decide +kernel) (by decide +kernel) ⟨rfl, rfl, rfl, rfl, rfl, by decide +kernel⟩ ?hw ?hc
  case hw => w_witness2
  case hc =>
    refine L2.walk_ofG (l := PySem.Challenge.rw_surewire_k99_forms_of_books) (n := 63) (k := 7) (x := "_law_script") (CX := L2.CX0) rfl (by decide) (by kernel_rfl) ⟨rfl, by decide, by decide⟩ ?F (fun _ _ _ _ z => z)
    intro w mg fa h Y G hmg0
    obtain ⟨K, KX, c⟩ := Y
    have hmg : mg ("law" : PySem.Str) = some (.ref fa) := by
      have e : (HandSHeadRun.topDef (OpenLaw.row PySem.Challenge.rw_surewire_k99_forms_of_books).prog 39).name = ("law" : PySem.Str) := by kernel_rfl
      rw [← e]
      exact hmg0
    obtain ⟨fd, hb, hF⟩ := Kk.all_mk (l := PySem.Challenge.rw_surewire_k99_forms_of_books) (w := w) KX G hmg c
    exact ⟨K, fd, Kk.spLaw K, KX, hb, fun H a ns hl _ hS => ⟨a, ns, rfl, hS, hl, fun _ => rfl⟩, hF⟩
#print axioms PySem.Challenge.cw_surewire_k99_forms_of_books_holds
