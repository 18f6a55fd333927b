import PyProof.Rows.All
import Wide.All
import OpenK.AllK
import Wide.FinOn
import HandS.ForMost
import HandS.IsInst
import HandS.Style
import HandS.Flow
import HandS.Exc
import HandS.TryOnly
import HandS.ExcOwn
import HandS.WordsExc
import HandS.WideBits
import HandS.Wide
import HandS.TupAny
import HandS.Walk
import HandS.ExcIs
import HandS.RaiseMore
import HandS.TupMul
import KE.KBits
import HandS.Zip
import HandS.Deep
import HandS.More
import HandS.SetFor
import HandS.FStrTup
import HandS.Ends
import PyProof.ReprRoads
import PyProof.FitsInt
import PyProof.CallFns
import HandS.Text
import HandS.StrMore
import HandS.RevRange
import KE.KDictKeyed
import HandS.Lambda
import KE.DataEq
import HandS.Flt
import HandS.Steps
import KE.GoesEnum
import HandS.Defaults
import PyProof.StrOps2
import HandS.ReplaceList
import HandS.SortInts
import HandS.EndOwn
import KE.KNestM
import KE.DataMinMax
import KE.SortData
import HandS.SortKw
import HandS.SetKeys
import KE.KDictWalk
import HandS.DictTup
import KE.KDictPairs
import HandS.TupLe
import KE.KEqNest
import KE.KDictMeth
import PyProof.ReprBulk
import KE.KStateDown
import HandS.Head0
import HandS.Head1
import HandS.Head2
import HandS.HeadHook1
import HandS.HeadHook2
import HandS.HeadHook3
import HandS.HeadEnd
import PySem.Challenge.RW_surewire_k64_papers
set_option Elab.async false
set_option linter.all false
set_option maxRecDepth 100000
set_option maxHeartbeats 2000000
/-! ## the head by one run of the kernel: what it tells -/
namespace Hk
open PySem PySem.Spec PyProof.Rows L2 He
abbrev Fk := PySem.W.Frag
def obsK (exs : List (Fk → Bool)) (fn : List DefD) (ts : List (Str × List Str)) (K : Fk) : AlT :=
  (((exs.all fun f => f K) && fn.all fun d => d.ok K, fn.map fun d => fnW K d.at_), ts.map fun t => dicW K (ga K t.1))
def valK (fn : List DefD) (ts : List (Str × List Str)) (w : World) : AlT := (valD fn, ts.map fun t => some (keysIn w.params t.2))
def obsL (as : List Addr) (exs : List (Fk → Bool)) (fn : List DefD) (ts : List (Str × List Str)) (g : Addr → Option Obj) : AlT := obsK exs fn ts (frG g as)
def SaysK (exs : List (Fk → Bool)) (fn : List DefD) (ts : List (Str × List Str)) (w : World) (K : Fk) : Prop := obsK exs fn ts K = valK fn ts w
def hookL (as : List Addr) (exs : List (Fk → Bool)) (fn : List DefD) (ts : List (Str × List Str)) : PySem.W.Hook where
  α := AlT
  obs := fun s => obsL as exs fn ts s.heap.get?
  val := fun w => valK fn ts w
  says := fun w h => ∃ K : Fk, K.In h ∧ SaysK exs fn ts w K
  of := fun _ _ e => ⟨_, frG_in, e⟩
  keeps := fun _ _ _ ⟨K, hK, c⟩ k => ⟨K, PySem.W.Frag.In.keeps hK k, c⟩
theorem obsL_eq {as : List Addr} {exs : List (Fk → Bool)} {fn : List DefD} {ts : List (Str × List Str)} {g : Addr → Option Obj} {s : Shared} (h : ∀ a, g a = s.heap.get? a) : obsL as exs fn ts g = (hookL as exs fn ts).obs s := by
  have e : g = s.heap.get? := funext h
  rw [e] <;> rfl
section
variable {exs : List (Fk → Bool)} {fn : List DefD} {ts : List (Str × List Str)} {w : World} {K : Fk}
theorem SaysK.fact (c : SaysK exs fn ts w K) (i : Nat) {f : Fk → Bool} (h : exs[i]? = some f := by rfl) : f K = true := by
  have c1 := (ba (show ((exs.all fun f => f K) && fn.all fun d => d.ok K) = true from congrArg (fun z : AlT => z.1.1) c)).1
  exact List.all_eq_true.mp c1 f (List.mem_of_getElem? h)
theorem SaysK.is (c : SaysK exs fn ts w K) {P : Prop} [Decidable P] (i : Nat) {f : Fk → Bool} (h : exs[i]? = some f := by rfl) (e : f K = decide P := by rfl) : P := of_decide_eq_true (e.symm.trans (c.fact i h))
theorem SaysK.def_ (c : SaysK exs fn ts w K) (i : Nat) {d : DefD} (h : fn[i]? = some d := by rfl) : ∃ fd, FunD K d.name d.qual d.params d.body d.scope (d.dvs K) (d.kws K) (fAd K d.at_) fd := by
  have c2 := (ba (show ((exs.all fun f => f K) && fn.all fun d => d.ok K) = true from congrArg (fun z : AlT => z.1.1) c)).2
  have e : fn.map (fun d => fnW K d.at_) = fn.map DefD.val := congrArg (fun z : AlT => z.1.2) c
  have e2 : (fn.map fun d => fnW K d.at_)[i]? = (fn.map DefD.val)[i]? := by rw [e]
  rw [List.getElem?_map, List.getElem?_map, h] at e2
  exact DefD.funD (Option.some.inj e2) (List.all_eq_true.mp c2 d (List.mem_of_getElem? h))
theorem funOf {x qual : Str} {st : Stmt} {f : Addr} {fd : FuncData} (F : FunD K x qual (defArgs st) (defBody st) (defScope st) [] [] f fd) : Fun K x qual st f fd := by
  obtain ⟨oc, od, dV, kV, doc, pm, an, cdv, ct, osl, e, lk, hcd, hd, _⟩ := F.ex
  refine ⟨⟨oc, od, kV, doc, pm, an, cdv, ct, osl, ?_, lk, hcd⟩, F.kp⟩
  rcases hd with ⟨_, rfl⟩ | ⟨h, _⟩
  · exact e
  · exact absurd rfl h
/-- a number, a text of the module -/
def intB (K : Fk) (x : Str) (i : Int) : Bool := match PySem.W.nsIn K mainGlobals x with
  | some (some (.int j _)) => decide (j = i)
  | _ => false
theorem intB_ok {h : Heap} {mg : Str → Option Value} (X : K.In h) (G : h.Ns mainGlobals mg) {x : Str} {i : Int} (c : intB K x i = true) : ∃ t, mg x = some (.int i t) := He.int_ok X G (x := x) (i := i) c
/-- a tuple of the module -/
def tplB (K : Fk) (a : Addr) (vs : List V) : Bool := match K.lookup a with
  | some ⟨.type c, _, .seq its _, _⟩ => decide (c = "tuple") && (decide (its.size ≤ sizeLine) && relAll vs its.toList)
  | _ => false
theorem tplB_ok {a : Addr} {vs : List V} (h : tplB K a vs = true) : ∃ (o : Obj) (its : Array Value) (n : Nat), K.lookup a = some o ∧ o.cls = .type "tuple" ∧ o.data = .seq its n ∧ its.size ≤ sizeLine ∧ Vals vs its.toList := by
  unfold tplB at h
  cases q : K.lookup a with
  | none =>
    rw [q] at h
    cases h
  | some o =>
    obtain ⟨oc, od, dt, osl⟩ := o
    rw [q] at h
    cases oc with
    | type c =>
      cases dt with
      | seq its n =>
        obtain ⟨h1, h2⟩ := ba (show (decide (c = "tuple") && (decide (its.size ≤ sizeLine) && relAll vs its.toList)) = true from h)
        obtain ⟨h3, h4⟩ := ba h2
        exact ⟨_, its, n, rfl, congrArg Value.type (of_decide_eq_true h1), rfl, of_decide_eq_true h3, relAll_ok h4⟩
      | _ => cases h
    | _ => cases dt <;> cases h
end
end Hk
/-! the run in three pieces: what each wants of memory is less -/
namespace Hk
open PySem PySem.W PySem.Calls PyProof.Rows HandSHeadRun He
def RunA (r : OpenRow) (q : Program) (M : Nat) (loose : List PySem.Str) (w : World) : Prop :=
  ∀ os : OsState, (endF (stepQ (denQ tabQ) r.prog w) M r.prog w os).map (fun s => (looksF r.prog (boot_heap w.params) s.abs, seenQ q loose (importedModules r.prog.main.body) (fun s => xlAt q [] s && recOk r.toRowW.records s) s.abs)) = some (true, openGood q loose)
def RunB (r : OpenRow) (M : Nat) (as : List Addr) (exs : List (Fk → Bool)) (w : World) : Prop :=
  ∀ os : OsState, (endF (stepQ (denQ tabQ) r.prog w) M r.prog w os).map (fun s => exs.all fun f => f (frG (getT s) as)) = some true
def RunC (r : OpenRow) (M : Nat) (as : List Addr) (fn : List DefD) (ts : List (PySem.Str × List PySem.Str)) (w : World) : Prop :=
  ∀ os : OsState, (endF (stepQ (denQ tabQ) r.prog w) M r.prog w os).map (fun s => ((fn.all fun d => d.ok (frG (getT s) as), fn.map fun d => fnW (frG (getT s) as) d.at_), ts.map fun t => dicW (frG (getT s) as) (ga (frG (getT s) as) t.1))) = some (valD fn, ts.map fun t => some (keysIn w.params t.2))
theorem run3 {r : OpenRow} {q : Program} {M : Nat} {loose : List PySem.Str} {w : World} {as : List Addr} {exs : List (Fk → Bool)} {fn : List DefD} {ts : List (PySem.Str × List PySem.Str)} {ob : SharedT → AlT} (ho : ∀ s, ob s = obsL as exs fn ts (getT s))
    (hA : RunA r q M loose w) (hB : RunB r M as exs w) (hC : RunC r M as fn ts w) : RunEq r q (hookL as exs fn ts) ob M loose w := by
  intro os
  have a := hA os
  have b := hB os
  have c := hC os
  cases e : endF (stepQ (denQ tabQ) r.prog w) M r.prog w os with
  | none => rw [e] at a; cases a
  | some s =>
    rw [e] at a b c
    have a1 := Option.some.inj a
    have b1 := Option.some.inj b
    have c1 := Option.some.inj c
    have a2 := congrArg Prod.fst a1
    have a3 := congrArg Prod.snd a1
    simp only at a2 a3 b1
    have o : ob s = valK fn ts w := by
      rw [ho]
      show obsK exs fn ts (frG (getT s) as) = valK fn ts w
      unfold obsK valK
      rw [b1]
      exact c1
    exact congrArg some (Prod.ext a2 (Prod.ext a3 o))
theorem RunB.app {r : OpenRow} {M : Nat} {as : List Addr} {x y : List (Fk → Bool)} {w : World} (hx : RunB r M as x w) (hy : RunB r M as y w) : RunB r M as (x ++ y) w := by
  intro os
  have a := hx os
  have b := hy os
  cases e : endF (stepQ (denQ tabQ) r.prog w) M r.prog w os with
  | none => rw [e] at a; cases a
  | some s =>
    rw [e] at a b
    have a1 := Option.some.inj a
    have b1 := Option.some.inj b
    simp only at a1 b1
    show some ((x ++ y).all fun f => f (frG (getT s) as)) = some true
    rw [List.all_append, a1, b1]
    rfl
end Hk

namespace Kk
open PySem L2
def topS (i : Nat) : Stmt := PySem.Challenge.pw_surewire_k64_papers.main.body.getD i (.Pass ⟨0, 0, 0, 0⟩)
abbrev s_l_begun_book : Stmt := topS 31
abbrev s_l_digits : Stmt := topS 28
abbrev s_l_pairs : Stmt := topS 30
abbrev s_l_book : Stmt := topS 32
abbrev s_l_cells : Stmt := topS 29
abbrev s_l_bytes : Stmt := topS 34
abbrev s_l_partner : Stmt := topS 33
abbrev s_l_line_right : Stmt := topS 35
abbrev s_l_due : Stmt := topS 36
abbrev s_l_paper : Stmt := topS 37
abbrev s_l_same : Stmt := topS 39
abbrev s_l_spoilt : Stmt := topS 38
abbrev s_Judge___init__ : Stmt := inClass (topS 19) 0
abbrev s_partner_of : Stmt := topS 18
abbrev s_Judge_source_of : Stmt := inClass (topS 19) 1
abbrev s_Judge_read_right : Stmt := inClass (topS 19) 2
abbrev s_talk_of : Stmt := topS 17
abbrev s_Judge_follow : Stmt := inClass (topS 19) 3
abbrev s_is_between : Stmt := topS 12
abbrev s_is_whole : Stmt := topS 6
abbrev s_is_data : Stmt := topS 7
abbrev s_is_more : Stmt := topS 13
abbrev s_is_line : Stmt := topS 14
abbrev s_need_book : Stmt := topS 15
abbrev s_judged : Stmt := topS 20
abbrev s_places_written : Stmt := topS 22
abbrev s_paper_of : Stmt := topS 23
abbrev s_is_pair : Stmt := topS 24
abbrev s_is_formed : Stmt := topS 25
abbrev s_shows : Stmt := topS 26
abbrev s_law : Stmt := topS 40
end Kk
namespace Hx
open PySem PySem.Spec PyProof.Rows L2
def d0 : He.DefD := ⟨("_law_begun_book", none), "_law_begun_book", "_law_begun_book", defArgs Kk.s_l_begun_book, defBody Kk.s_l_begun_book, defScope Kk.s_l_begun_book, [], []⟩
def d1 : He.DefD := ⟨("_law_digits", none), "_law_digits", "_law_digits", defArgs Kk.s_l_digits, defBody Kk.s_l_digits, defScope Kk.s_l_digits, [], []⟩
def d2 : He.DefD := ⟨("_law_pairs", none), "_law_pairs", "_law_pairs", defArgs Kk.s_l_pairs, defBody Kk.s_l_pairs, defScope Kk.s_l_pairs, [], []⟩
def d3 : He.DefD := ⟨("_law_book", none), "_law_book", "_law_book", defArgs Kk.s_l_book, defBody Kk.s_l_book, defScope Kk.s_l_book, [], []⟩
def d4 : He.DefD := ⟨("_law_cells", none), "_law_cells", "_law_cells", defArgs Kk.s_l_cells, defBody Kk.s_l_cells, defScope Kk.s_l_cells, [], []⟩
def d5 : He.DefD := ⟨("_law_bytes", none), "_law_bytes", "_law_bytes", defArgs Kk.s_l_bytes, defBody Kk.s_l_bytes, defScope Kk.s_l_bytes, [], []⟩
def d6 : He.DefD := ⟨("_law_partner", none), "_law_partner", "_law_partner", defArgs Kk.s_l_partner, defBody Kk.s_l_partner, defScope Kk.s_l_partner, [], []⟩
def d7 : He.DefD := ⟨("_law_line_right", none), "_law_line_right", "_law_line_right", defArgs Kk.s_l_line_right, defBody Kk.s_l_line_right, defScope Kk.s_l_line_right, [], []⟩
def d8 : He.DefD := ⟨("_law_due", none), "_law_due", "_law_due", defArgs Kk.s_l_due, defBody Kk.s_l_due, defScope Kk.s_l_due, [], []⟩
def d9 : He.DefD := ⟨("_law_paper", none), "_law_paper", "_law_paper", defArgs Kk.s_l_paper, defBody Kk.s_l_paper, defScope Kk.s_l_paper, [], []⟩
def d10 : He.DefD := ⟨("_law_same", none), "_law_same", "_law_same", defArgs Kk.s_l_same, defBody Kk.s_l_same, defScope Kk.s_l_same, [], []⟩
def d11 : He.DefD := ⟨("_law_spoilt", none), "_law_spoilt", "_law_spoilt", defArgs Kk.s_l_spoilt, defBody Kk.s_l_spoilt, defScope Kk.s_l_spoilt, [], []⟩
def d12 : He.DefD := ⟨("Judge", some "__init__"), "__init__", "Judge.__init__", defArgs Kk.s_Judge___init__, defBody Kk.s_Judge___init__, defScope Kk.s_Judge___init__, [], []⟩
def d13 : He.DefD := ⟨("partner_of", none), "partner_of", "partner_of", defArgs Kk.s_partner_of, defBody Kk.s_partner_of, defScope Kk.s_partner_of, [], []⟩
def d14 : He.DefD := ⟨("Judge", some "source_of"), "source_of", "Judge.source_of", defArgs Kk.s_Judge_source_of, defBody Kk.s_Judge_source_of, defScope Kk.s_Judge_source_of, [], []⟩
def d15 : He.DefD := ⟨("Judge", some "read_right"), "read_right", "Judge.read_right", defArgs Kk.s_Judge_read_right, defBody Kk.s_Judge_read_right, defScope Kk.s_Judge_read_right, [], []⟩
def d16 : He.DefD := ⟨("talk_of", none), "talk_of", "talk_of", defArgs Kk.s_talk_of, defBody Kk.s_talk_of, defScope Kk.s_talk_of, [], []⟩
def d17 : He.DefD := ⟨("Judge", some "follow"), "follow", "Judge.follow", defArgs Kk.s_Judge_follow, defBody Kk.s_Judge_follow, defScope Kk.s_Judge_follow, [], []⟩
def d18 : He.DefD := ⟨("is_between", none), "is_between", "is_between", defArgs Kk.s_is_between, defBody Kk.s_is_between, defScope Kk.s_is_between, [], []⟩
def d19 : He.DefD := ⟨("is_whole", none), "is_whole", "is_whole", defArgs Kk.s_is_whole, defBody Kk.s_is_whole, defScope Kk.s_is_whole, [], []⟩
def d20 : He.DefD := ⟨("is_data", none), "is_data", "is_data", defArgs Kk.s_is_data, defBody Kk.s_is_data, defScope Kk.s_is_data, [], []⟩
def d21 : He.DefD := ⟨("is_more", none), "is_more", "is_more", defArgs Kk.s_is_more, defBody Kk.s_is_more, defScope Kk.s_is_more, [], []⟩
def d22 : He.DefD := ⟨("is_line", none), "is_line", "is_line", defArgs Kk.s_is_line, defBody Kk.s_is_line, defScope Kk.s_is_line, [], []⟩
def d23 : He.DefD := ⟨("need_book", none), "need_book", "need_book", defArgs Kk.s_need_book, defBody Kk.s_need_book, defScope Kk.s_need_book, [], []⟩
def d24 : He.DefD := ⟨("judged", none), "judged", "judged", defArgs Kk.s_judged, defBody Kk.s_judged, defScope Kk.s_judged, [], []⟩
def d25 : He.DefD := ⟨("places_written", none), "places_written", "places_written", defArgs Kk.s_places_written, defBody Kk.s_places_written, defScope Kk.s_places_written, [], []⟩
def d26 : He.DefD := ⟨("paper_of", none), "paper_of", "paper_of", defArgs Kk.s_paper_of, defBody Kk.s_paper_of, defScope Kk.s_paper_of, [], []⟩
def d27 : He.DefD := ⟨("is_pair", none), "is_pair", "is_pair", defArgs Kk.s_is_pair, defBody Kk.s_is_pair, defScope Kk.s_is_pair, [], []⟩
def d28 : He.DefD := ⟨("is_formed", none), "is_formed", "is_formed", defArgs Kk.s_is_formed, defBody Kk.s_is_formed, defScope Kk.s_is_formed, [], []⟩
def d29 : He.DefD := ⟨("shows", none), "shows", "shows", defArgs Kk.s_shows, defBody Kk.s_shows, defScope Kk.s_shows, [], []⟩
def d30 : He.DefD := ⟨("law", none), "law", "law", defArgs Kk.s_law, defBody Kk.s_law, defScope Kk.s_law, [], []⟩
def q0 (K : Hk.Fk) : Bool := decide (PySem.W.nsIn K mainGlobals "Judge" = some (some (.ref (He.ga K "Judge"))))
def q1 (K : Hk.Fk) : Bool := decide (PySem.W.nsIn K mainGlobals "NoBook" = some (some (.ref (He.ga K "NoBook"))))
def q2 (K : Hk.Fk) : Bool := decide (PySem.W.nsIn K mainGlobals "STANDS" = some (some (.ref (He.ga K "STANDS"))))
def q3 (K : Hk.Fk) : Bool := decide (PySem.W.nsIn K mainGlobals "all" = some none)
def q4 (K : Hk.Fk) : Bool := decide (PySem.W.nsIn K mainGlobals "bool" = some none)
def q5 (K : Hk.Fk) : Bool := decide (PySem.W.nsIn K mainGlobals "dict" = some none)
def q6 (K : Hk.Fk) : Bool := decide (PySem.W.nsIn K mainGlobals "enumerate" = some none)
def q7 (K : Hk.Fk) : Bool := decide (PySem.W.nsIn K mainGlobals "int" = some none)
def q8 (K : Hk.Fk) : Bool := decide (PySem.W.nsIn K mainGlobals "isinstance" = some none)
def q9 (K : Hk.Fk) : Bool := decide (PySem.W.nsIn K mainGlobals "len" = some none)
def q10 (K : Hk.Fk) : Bool := decide (PySem.W.nsIn K mainGlobals "list" = some none)
def q11 (K : Hk.Fk) : Bool := decide (PySem.W.nsIn K mainGlobals "max" = some none)
def q12 (K : Hk.Fk) : Bool := decide (PySem.W.nsIn K mainGlobals "range" = some none)
def q13 (K : Hk.Fk) : Bool := decide (PySem.W.nsIn K mainGlobals "repr" = some none)
def q14 (K : Hk.Fk) : Bool := decide (PySem.W.nsIn K mainGlobals "sorted" = some none)
def q15 (K : Hk.Fk) : Bool := decide (PySem.W.nsIn K mainGlobals "str" = some none)
def q16 (K : Hk.Fk) : Bool := decide (PySem.W.nsIn K mainGlobals "tuple" = some none)
def q17 (K : Hk.Fk) : Bool := Hk.intB K "BYTE" 255
def q18 (K : Hk.Fk) : Bool := Hk.intB K "MOST_BYTE" 255
def q19 (K : Hk.Fk) : Bool := Hk.intB K "MOST_DATA" 1000
def q20 (K : Hk.Fk) : Bool := Hk.intB K "SIZE" 4294967296
def q21 (K : Hk.Fk) : Bool := decide (PySem.W.excIn K (He.ga K "NoBook") [.type "ValueError", .type "Exception", .type "BaseException", .type "object"] "ValueError.__new__" = true)
def q22 (K : Hk.Fk) : Bool := decide (PySem.W.keepIn K (.ref (He.ga K "NoBook")) = true)
def q23 (K : Hk.Fk) : Bool := decide (PySem.W.subIn K (.ref (He.ga K "NoBook")) (.type "BaseException") = some true)
def q24 (K : Hk.Fk) : Bool := decide (PySem.W.typeIn K (.ref (He.ga K "NoBook")) = some (.type "type"))
def q25 (K : Hk.Fk) : Bool := decide (PySem.W.plainGet K (He.ga K "Judge") PySem.Str.empty = true)
def q26 (K : Hk.Fk) : Bool := decide (PySem.W.hasDictIn K (He.ga K "Judge") = true)
def q27 (K : Hk.Fk) : Bool := decide (PySem.W.plainOver K (He.ga K "Judge") = true)
def q28 (K : Hk.Fk) : Bool := decide (PySem.W.findIn K (.ref (He.ga K "Judge")) "__setattr__" = some (some (.builtin "object.__setattr__")))
def q29 (K : Hk.Fk) : Bool := decide (PySem.W.makesIn K (He.ga K "Judge") = true)
def q30 (K : Hk.Fk) : Bool := decide (PySem.W.keepIn K (.ref (He.ga K "Judge")) = true)
def q31 (K : Hk.Fk) : Bool := decide (PySem.W.findIn K (.ref (He.ga K "Judge")) "had" = some none)
def q32 (K : Hk.Fk) : Bool := decide (PySem.W.findIn K (.ref (He.ga K "Judge")) "openings" = some none)
def q33 (K : Hk.Fk) : Bool := decide (PySem.W.findIn K (.ref (He.ga K "Judge")) "written" = some none)
def q34 (K : Hk.Fk) : Bool := decide (PySem.W.findIn K (.ref (He.ga K "Judge")) "__class__" = some (some (.builtin "object.__class__")))
def q35 (K : Hk.Fk) : Bool := decide (PySem.W.specialIn K (.builtin "object.__class__") "__get__" = some (some (.builtin "getset_descriptor.__get__")))
def q36 (K : Hk.Fk) : Bool := decide (PySem.W.takesIn K (.builtin "object.__class__") = some true)
def q37 (K : Hk.Fk) : Bool := decide (PySem.W.mroIn K (He.ga K "Judge") (.type "object") = some true)
def q38 (K : Hk.Fk) : Bool := decide (PySem.W.findIn K (.ref (He.ga K "NoBook")) "__getattribute__" = some (some (.builtin "BaseException.__getattribute__")))
def q39 (K : Hk.Fk) : Bool := decide (PySem.W.findIn K (.ref (He.ga K "NoBook")) "__getattr__" = some none)
def q40 (K : Hk.Fk) : Bool := decide (PySem.W.subIn K (.ref (He.ga K "NoBook")) (.type "BaseException") = some true)
def q41 (K : Hk.Fk) : Bool := decide (PySem.W.hasDictIn K (He.ga K "NoBook") = true)
def q42 (K : Hk.Fk) : Bool := decide (PySem.W.findIn K (.ref (He.ga K "NoBook")) "__class__" = some (some (.builtin "object.__class__")))
def q43 (K : Hk.Fk) : Bool := decide (PySem.W.specialIn K (.builtin "object.__class__") "__get__" = some (some (.builtin "getset_descriptor.__get__")))
def q44 (K : Hk.Fk) : Bool := decide (PySem.W.takesIn K (.builtin "object.__class__") = some true)
def q45 (K : Hk.Fk) : Bool := decide (PySem.W.mroIn K (He.ga K "NoBook") (.type "object") = some true)
def q46 (K : Hk.Fk) : Bool := decide (PySem.W.kitOne K (.ref (He.ga K "Judge")) (.type "bool") = some false)
def q47 (K : Hk.Fk) : Bool := decide (PySem.W.kitOne K (.ref (He.ga K "Judge")) (.type "int") = some false)
def q48 (K : Hk.Fk) : Bool := decide (PySem.W.kitOne K (.ref (He.ga K "Judge")) (.type "list") = some false)
def q49 (K : Hk.Fk) : Bool := decide (PySem.W.kitOne K (.ref (He.ga K "Judge")) (.type "str") = some false)
def q50 (K : Hk.Fk) : Bool := decide (PySem.W.kitOne K (.ref (He.ga K "Judge")) (.type "tuple") = some false)
def q51 (K : Hk.Fk) : Bool := decide (PySem.W.kitOne K (.ref (He.ga K "NoBook")) (.type "bool") = some false)
def q52 (K : Hk.Fk) : Bool := decide (PySem.W.kitOne K (.ref (He.ga K "NoBook")) (.type "int") = some false)
def q53 (K : Hk.Fk) : Bool := decide (PySem.W.kitOne K (.ref (He.ga K "NoBook")) (.type "list") = some false)
def q54 (K : Hk.Fk) : Bool := decide (PySem.W.kitOne K (.ref (He.ga K "NoBook")) (.type "str") = some false)
def q55 (K : Hk.Fk) : Bool := decide (PySem.W.kitOne K (.ref (He.ga K "NoBook")) (.type "tuple") = some false)
def q56 (K : Hk.Fk) : Bool := Hk.tplB K (He.ga K "STANDS") ([("calls" : Str), ("answers" : Str), ("open" : Str), ("ends" : Str), ("left" : Str), ("rests" : Str), ("closed" : Str), ("cut" : Str), ("gone" : Str)].map V.str)
def q57 (K : Hk.Fk) : Bool := decide (PySem.W.nsIn K mainGlobals "_law_begun_book" = some (some (.ref (He.ga K "_law_begun_book"))))
def q58 (K : Hk.Fk) : Bool := decide (PySem.W.nsIn K mainGlobals "_law_digits" = some (some (.ref (He.ga K "_law_digits"))))
def q59 (K : Hk.Fk) : Bool := decide (PySem.W.nsIn K mainGlobals "_law_pairs" = some (some (.ref (He.ga K "_law_pairs"))))
def q60 (K : Hk.Fk) : Bool := decide (PySem.W.nsIn K mainGlobals "_law_book" = some (some (.ref (He.ga K "_law_book"))))
def q61 (K : Hk.Fk) : Bool := decide (PySem.W.nsIn K mainGlobals "_law_cells" = some (some (.ref (He.ga K "_law_cells"))))
def q62 (K : Hk.Fk) : Bool := decide (PySem.W.nsIn K mainGlobals "_law_bytes" = some (some (.ref (He.ga K "_law_bytes"))))
def q63 (K : Hk.Fk) : Bool := decide (PySem.W.nsIn K mainGlobals "_law_partner" = some (some (.ref (He.ga K "_law_partner"))))
def q64 (K : Hk.Fk) : Bool := decide (PySem.W.nsIn K mainGlobals "_law_line_right" = some (some (.ref (He.ga K "_law_line_right"))))
def q65 (K : Hk.Fk) : Bool := decide (PySem.W.nsIn K mainGlobals "_law_due" = some (some (.ref (He.ga K "_law_due"))))
def q66 (K : Hk.Fk) : Bool := decide (PySem.W.nsIn K mainGlobals "_law_paper" = some (some (.ref (He.ga K "_law_paper"))))
def q67 (K : Hk.Fk) : Bool := decide (PySem.W.nsIn K mainGlobals "_law_same" = some (some (.ref (He.ga K "_law_same"))))
def q68 (K : Hk.Fk) : Bool := decide (PySem.W.nsIn K mainGlobals "_law_spoilt" = some (some (.ref (He.ga K "_law_spoilt"))))
def q69 (K : Hk.Fk) : Bool := decide (PySem.W.findIn K (.ref (He.ga K "Judge")) "__init__" = some (some (.ref (He.ma K (He.ga K "Judge") "__init__"))))
def q70 (K : Hk.Fk) : Bool := PySem.W.isFn K (.ref (He.ma K (He.ga K "Judge") "__init__"))
def q71 (K : Hk.Fk) : Bool := decide (PySem.W.nsIn K mainGlobals "partner_of" = some (some (.ref (He.ga K "partner_of"))))
def q72 (K : Hk.Fk) : Bool := decide (PySem.W.findIn K (.ref (He.ga K "Judge")) "source_of" = some (some (.ref (He.ma K (He.ga K "Judge") "source_of"))))
def q73 (K : Hk.Fk) : Bool := PySem.W.isFn K (.ref (He.ma K (He.ga K "Judge") "source_of"))
def q74 (K : Hk.Fk) : Bool := decide (PySem.W.findIn K (.ref (He.ga K "Judge")) "read_right" = some (some (.ref (He.ma K (He.ga K "Judge") "read_right"))))
def q75 (K : Hk.Fk) : Bool := PySem.W.isFn K (.ref (He.ma K (He.ga K "Judge") "read_right"))
def q76 (K : Hk.Fk) : Bool := decide (PySem.W.nsIn K mainGlobals "talk_of" = some (some (.ref (He.ga K "talk_of"))))
def q77 (K : Hk.Fk) : Bool := decide (PySem.W.findIn K (.ref (He.ga K "Judge")) "follow" = some (some (.ref (He.ma K (He.ga K "Judge") "follow"))))
def q78 (K : Hk.Fk) : Bool := PySem.W.isFn K (.ref (He.ma K (He.ga K "Judge") "follow"))
def q79 (K : Hk.Fk) : Bool := decide (PySem.W.nsIn K mainGlobals "is_between" = some (some (.ref (He.ga K "is_between"))))
def q80 (K : Hk.Fk) : Bool := decide (PySem.W.nsIn K mainGlobals "is_whole" = some (some (.ref (He.ga K "is_whole"))))
def q81 (K : Hk.Fk) : Bool := decide (PySem.W.nsIn K mainGlobals "is_data" = some (some (.ref (He.ga K "is_data"))))
def q82 (K : Hk.Fk) : Bool := decide (PySem.W.nsIn K mainGlobals "is_more" = some (some (.ref (He.ga K "is_more"))))
def q83 (K : Hk.Fk) : Bool := decide (PySem.W.nsIn K mainGlobals "is_line" = some (some (.ref (He.ga K "is_line"))))
def q84 (K : Hk.Fk) : Bool := decide (PySem.W.nsIn K mainGlobals "need_book" = some (some (.ref (He.ga K "need_book"))))
def q85 (K : Hk.Fk) : Bool := decide (PySem.W.nsIn K mainGlobals "judged" = some (some (.ref (He.ga K "judged"))))
def q86 (K : Hk.Fk) : Bool := decide (PySem.W.nsIn K mainGlobals "places_written" = some (some (.ref (He.ga K "places_written"))))
def q87 (K : Hk.Fk) : Bool := decide (PySem.W.nsIn K mainGlobals "paper_of" = some (some (.ref (He.ga K "paper_of"))))
def q88 (K : Hk.Fk) : Bool := decide (PySem.W.nsIn K mainGlobals "is_pair" = some (some (.ref (He.ga K "is_pair"))))
def q89 (K : Hk.Fk) : Bool := decide (PySem.W.nsIn K mainGlobals "is_formed" = some (some (.ref (He.ga K "is_formed"))))
def q90 (K : Hk.Fk) : Bool := decide (PySem.W.nsIn K mainGlobals "shows" = some (some (.ref (He.ga K "shows"))))
def q91 (K : Hk.Fk) : Bool := decide (PySem.W.nsIn K mainGlobals "law" = some (some (.ref (He.ga K "law"))))
def exs_0 : List (Hk.Fk → Bool) := [q0, q1, q2, q3, q4, q5, q6, q7, q8, q9, q10, q11, q12, q13, q14]
def exs_1 : List (Hk.Fk → Bool) := [q15, q16, q17, q18, q19, q20, q21, q22, q23, q24, q25, q26, q27, q28, q29]
def exs_2 : List (Hk.Fk → Bool) := [q30, q31, q32, q33, q34, q35, q36, q37, q38, q39, q40, q41, q42, q43, q44]
def exs_3 : List (Hk.Fk → Bool) := [q45, q46, q47, q48, q49, q50, q51, q52, q53, q54, q55, q56, q57, q58, q59]
def exs_4 : List (Hk.Fk → Bool) := [q60, q61, q62, q63, q64, q65, q66, q67, q68, q69, q70, q71, q72, q73, q74]
def exs_5 : List (Hk.Fk → Bool) := [q75, q76, q77, q78, q79, q80, q81, q82, q83, q84, q85, q86, q87, q88, q89]
def exs_6 : List (Hk.Fk → Bool) := [q90, q91]
def exs : List (Hk.Fk → Bool) := exs_0 ++ (exs_1 ++ (exs_2 ++ (exs_3 ++ (exs_4 ++ (exs_5 ++ (exs_6))))))
def fn_0 : List He.DefD := [d0, d1, d2, d3, d4, d5, d6, d7, d8, d9, d10, d11, d12, d13, d14]
def fn_1 : List He.DefD := [d15, d16, d17, d18, d19, d20, d21, d22, d23, d24, d25, d26, d27, d28, d29]
def fn_2 : List He.DefD := [d30]
def fn : List He.DefD := fn_0 ++ (fn_1 ++ (fn_2))
def ts_0 : List (Str × List Str) := []
def ts : List (Str × List Str) := ts_0
def as__0 : List Addr := [2, 3, 23, 36, 127, 24, 37, 128, 52, 46, 51, 59, 66, 71, 76, 83, 90, 104, 111, 118, 125, 139, 144, 149, 154, 159, 166, 173, 180, 187]
def as__1 : List Addr := [194, 199, 206, 213, 218, 223, 228, 235, 242, 249, 25, 45, 50, 58, 65, 70, 75, 82, 89, 103, 110, 117, 124, 129, 130, 138, 143, 148, 153, 158]
def as__2 : List Addr := [165, 172, 179, 186, 193, 198, 205, 212, 217, 222, 227, 234, 241, 248]
def as_ : List Addr := as__0 ++ (as__1 ++ (as__2))
def names_0 : List Str := ["WireError", "NoBook", "MOST_DATA", "MOST_BYTE", "is_whole", "is_data", "SIZE", "BYTE", "STANDS", "is_between", "is_more", "is_line", "need_book", "talk_of", "partner_of"]
def names_1 : List Str := ["Judge", "judged", "places_written", "paper_of", "is_pair", "is_formed", "shows", "_law_digits", "_law_cells", "_law_pairs", "_law_begun_book", "_law_book", "_law_partner", "_law_bytes", "_law_line_right"]
def names_2 : List Str := ["_law_due", "_law_paper", "_law_spoilt", "_law_same"]
def names : List Str := names_0 ++ (names_1 ++ (names_2))
abbrev R : PySem.W.OpenRow := PySem.W.OpenLaw.row PySem.Challenge.rw_surewire_k64_papers
abbrev qv : Program := PySem.W.view R.prog [40]
abbrev hk : PySem.W.Hook := Hk.hookL as_ exs fn ts
def ob (s : PySem.W.SharedT) : He.AlT := Hk.obsL as_ exs fn ts (HandSHeadRun.getT s)
theorem ob_eq (s : PySem.W.SharedT) : ob s = hk.obs s.abs := Hk.obsL_eq (HandSHeadRun.getT_eq s)
def RE (w : World) : Prop := HandSHeadRun.RunEq R qv hk ob 3668 names w
set_option maxHeartbeats 0 in
theorem runA_ (w : World) : Hk.RunA R qv 3668 names w := by
  intro os
  kernel_rfl
set_option maxHeartbeats 0 in
theorem runB_ (w : World) : Hk.RunB R 3668 as_ exs w := by
  intro os
  kernel_rfl
set_option maxHeartbeats 0 in
theorem runC_ (w : World) : Hk.RunC R 3668 as_ fn ts w := by
  intro os
  kernel_rfl
theorem run_ (w : World) : RE w := Hk.run3 (fun _ => rfl) (runA_ w) (runB_ w) (runC_ w)
theorem run (w : World) : RE w := run_ w
end Hx
/-! ## the data layer: what a reading gives, told by plain data; what stands is told by slots -/
namespace DL
open PySem L2

/-- plain data -/
inductive D where
  | non | bl (b : Bool) | int (i : Int) | str (x : Str) | ty (n : String) | ref (a : Addr)
  | tup (l : List D) | lst (l : List D) | scr (l : List D)
  | dic (l : List (Key × D)) | dit (l : List (List Key × D))
  | obj (C : Addr) (fs : List (Str × D))
  | exc (C : Addr)
/-- what one owned object holds -/
inductive OB where
  | lst (l : List D) | dic (l : List (Key × D)) | dit (l : List (List Key × D)) | obj (C : Addr) (fs : List (Str × D))
def OB.d : OB → D
  | .lst l => .lst l
  | .dic l => .dic l
  | .dit l => .dit l
  | .obj C fs => .obj C fs
/-- what is known of a slot -/
inductive EV where
  | any | val (d : D) | own (o : OB)
abbrev Env := List EV

def Ex (H H' : Hp) : Prop := ∀ a o, H a = some o → H' a = some o
theorem Ex.refl (H : Hp) : Ex H H := fun _ _ h => h
theorem Ex.trans {H H1 H2 : Hp} (a : Ex H H1) (b : Ex H1 H2) : Ex H H2 := fun x o h => b x o (a x o h)
theorem Ex.new {H : Hp} {p : Addr} {o : HO} (h : H p = none) : Ex H (upd H p o) := fun a u e => by
  rw [upd_ne (ne_of_none e h)]; exact e
theorem Ex.back {H H' : Hp} {p : Addr} (e : Ex H H') (h : H' p = none) : H p = none := by
  cases h1 : H p with
  | none => rfl
  | some o => rw [e p o h1] at h; cases h
theorem Ex.both {F H : Hp} {p : Addr} {o : HO} (e : Ex F H) : Ex (upd F p o) (upd H p o) := fun a u h => by
  by_cases q : a = p
  · subst q; rw [upd_same] at h ⊢; exact h
  · rw [upd_ne q] at h ⊢; exact e a u h
theorem Ex.right {F H : Hp} {p : Addr} {o : HO} (e : Ex F H) (h : F p = none) : Ex F (upd H p o) := fun a u q => by
  rw [upd_ne (ne_of_none q h)]; exact e a u q
theorem Ex.left {F H : Hp} {p : Addr} {o : HO} (e : Ex F H) (h : H p = some o) : Ex (upd F p o) H := fun a u q => by
  by_cases z : a = p
  · subst z; rw [upd_same] at q; rw [h]; exact q
  · rw [upd_ne z] at q; exact e a u q
theorem Ex.rd {H H' : Hp} {a : Addr} {u : HO} (e : Ex H H') (h : Rd H a u) : Rd H' a u := by
  rcases h with h | ⟨o, h⟩
  · exact Or.inl (e a _ h)
  · exact Or.inr ⟨o, e a _ h⟩
theorem Ex.l {K : PySem.W.Frag} {H H' : Hp} {a : Addr} {xs : List V} (e : Ex H H') (h : SqL K H a xs) : SqL K H' a xs := by
  rcases h with h | h
  · exact Or.inl (e.rd h)
  · exact Or.inr h
theorem Ex.t {K : PySem.W.Frag} {H H' : Hp} {a : Addr} {xs : List V} (e : Ex H H') (h : SqT K H a xs) : SqT K H' a xs := by
  rcases h with h | h
  · exact Or.inl (e.rd h)
  · exact Or.inr h

/-- an exception of the class at C, caught and kept -/
def ExK (C a : Addr) : HO := .ext fun h => ∃ (oe : Obj) (vs : Array Value), h.get? a = some oe ∧ Zc (.ref C) none oe ∧ oe.data = .fields vs
mutual
/-- the value v is the data d, all of it standing in F -/
inductive Rep (K : PySem.W.Frag) (F : Hp) : V → D → Prop
  | non : Rep K F .non .non
  | bl (b : Bool) : Rep K F (.bl b) (.bl b)
  | int (i : Int) : Rep K F (.int i) (.int i)
  | str (x : Str) : Rep K F (.str x) (.str x)
  | ty (n : String) : Rep K F (.ty n) (.ty n)
  | ref (a : Addr) : Rep K F (.ref a) (.ref a)
  | tup {a : Addr} {vs : List V} {l : List D} : SqT K F a vs → RepL K F vs l → Rep K F (.ref a) (.tup l)
  | lst {a : Addr} {vs : List V} {l : List D} : F a = some (.lst vs) → RepL K F vs l → Rep K F (.ref a) (.lst l)
  | scr {a : Addr} {vs : List V} {l : List D} : SqL K F a vs → RepL K F vs l → Rep K F (.ref a) (.scr l)
  | dic {a : Addr} {ks : List Key} {vs : List V} {ds : List D} : F a = some (.dK (ks.zip vs)) → ks.length = ds.length → RepL K F vs ds → Rep K F (.ref a) (.dic (ks.zip ds))
  | dit {a : Addr} {ks : List (List Key)} {vs : List V} {ds : List D} : F a = some (.dT (ks.zip vs)) → ks.length = ds.length → RepL K F vs ds → Rep K F (.ref a) (.dit (ks.zip ds))
  | obj {a C dx : Addr} {ks : List Str} {vs : List V} {ds : List D} : F a = some (.ins C dx (ks.zip vs)) → ks.length = ds.length → RepL K F vs ds → Rep K F (.ref a) (.obj C (ks.zip ds))
  | exc {a C : Addr} : F a = some (ExK C a) → Rep K F (.ref a) (.exc C)
inductive RepL (K : PySem.W.Frag) (F : Hp) : List V → List D → Prop
  | nil : RepL K F [] []
  | cons {v : V} {vs : List V} {d : D} {ds : List D} : Rep K F v d → RepL K F vs ds → RepL K F (v :: vs) (d :: ds)
end
section
variable {K : PySem.W.Frag} {F F' : Hp}
mutual
theorem Rep.mono (e : Ex F F') : ∀ {v : V} {d : D}, Rep K F v d → Rep K F' v d
  | _, _, .non => .non
  | _, _, .bl b => .bl b
  | _, _, .int i => .int i
  | _, _, .str x => .str x
  | _, _, .ty n => .ty n
  | _, _, .ref a => .ref a
  | _, _, .tup h r => .tup (e.t h) (RepL.mono e r)
  | _, _, .lst h r => .lst (e _ _ h) (RepL.mono e r)
  | _, _, .scr h r => .scr (e.l h) (RepL.mono e r)
  | _, _, .dic h l r => .dic (e _ _ h) l (RepL.mono e r)
  | _, _, .dit h l r => .dit (e _ _ h) l (RepL.mono e r)
  | _, _, .obj h l r => .obj (e _ _ h) l (RepL.mono e r)
  | _, _, .exc h => .exc (e _ _ h)
theorem RepL.mono (e : Ex F F') : ∀ {vs : List V} {ds : List D}, RepL K F vs ds → RepL K F' vs ds
  | _, _, .nil => .nil
  | _, _, .cons h r => .cons (Rep.mono e h) (RepL.mono e r)
end
theorem RepL.length : ∀ {vs : List V} {ds : List D}, RepL K F vs ds → vs.length = ds.length
  | _, _, .nil => rfl
  | _, _, .cons _ r => by rw [List.length_cons, List.length_cons, r.length]
theorem RepL.get : ∀ {vs : List V} {ds : List D} {i : Nat} {d : D}, RepL K F vs ds → ds[i]? = some d → ∃ v, vs[i]? = some v ∧ Rep K F v d
  | _, _, _, _, .nil, h => by simp at h
  | _, _, 0, _, .cons h _, e => by simp at e; subst e; exact ⟨_, rfl, h⟩
  | _, _, i + 1, _, .cons _ r, e => by
    obtain ⟨v, h1, h2⟩ := RepL.get (i := i) r (by simpa using e)
    exact ⟨v, by simpa using h1, h2⟩
theorem RepL.append : ∀ {vs ws : List V} {ds es : List D}, RepL K F vs ds → RepL K F ws es → RepL K F (vs ++ ws) (ds ++ es)
  | _, _, _, _, .nil, s => s
  | _, _, _, _, .cons h r, s => .cons h (RepL.append r s)
theorem RepL.take : ∀ {vs : List V} {ds : List D} (n : Nat), RepL K F vs ds → RepL K F (vs.take n) (ds.take n)
  | _, _, 0, _ => .nil
  | _, _, _ + 1, .nil => .nil
  | _, _, n + 1, .cons h r => .cons h (RepL.take n r)
theorem RepL.drop : ∀ {vs : List V} {ds : List D} (n : Nat), RepL K F vs ds → RepL K F (vs.drop n) (ds.drop n)
  | _, _, 0, r => r
  | _, _, _ + 1, .nil => .nil
  | _, _, n + 1, .cons _ r => RepL.drop n r
theorem RepL.set {v : V} {d : D} (h : Rep K F v d) : ∀ {vs : List V} {ds : List D} (n : Nat), RepL K F vs ds → RepL K F (vs.set n v) (ds.set n d)
  | _, _, _, .nil => .nil
  | _, _, 0, .cons _ r => .cons h r
  | _, _, n + 1, .cons q r => .cons q (RepL.set h n r)
theorem RepL.reverse : ∀ {vs : List V} {ds : List D}, RepL K F vs ds → RepL K F vs.reverse ds.reverse
  | _, _, .nil => .nil
  | _, _, .cons h r => by
    rw [List.reverse_cons, List.reverse_cons]
    exact (RepL.reverse r).append (.cons h .nil)
/-- ints, truths, texts: the values are those of the data -/
theorem RepL.ints : ∀ {vs : List V} {ns : List Int}, RepL K F vs (ns.map D.int) → vs = ns.map V.int
  | _, [], h => by cases h; rfl
  | _, n :: r, h => by
    cases h with
    | cons q t => cases q; rw [RepL.ints t]; rfl
theorem RepL.bools : ∀ {vs : List V} {ns : List Bool}, RepL K F vs (ns.map D.bl) → vs = ns.map V.bl
  | _, [], h => by cases h; rfl
  | _, n :: r, h => by
    cases h with
    | cons q t => cases q; rw [RepL.bools t]; rfl
theorem RepL.of_ints : ∀ {ns : List Int}, RepL K F (ns.map V.int) (ns.map D.int)
  | [] => .nil
  | n :: _ => .cons (.int n) RepL.of_ints
/-- data that no heap is asked for -/
def flat : D → Bool
  | .non | .bl _ | .int _ | .str _ | .ty _ | .ref _ => true
  | _ => false
theorem Rep.flat {v : V} {d : D} (h : Rep K F v d) (f : flat d = true) : Rep K F' v d := by
  cases h <;> first | (cases f; done) | constructor
theorem RepL.flat : ∀ {vs : List V} {ds : List D}, RepL K F vs ds → ds.all DL.flat = true → RepL K F' vs ds
  | _, _, .nil, _ => .nil
  | _, _, .cons h r, f => by
    rw [List.all_cons, Bool.and_eq_true] at f
    exact .cons (h.flat f.1) (RepL.flat r f.2)
end

/-- the owned object at a holds o; its parts stand in F -/
def ORep (K : PySem.W.Frag) (F H : Hp) (a : Addr) : OB → Prop
  | .lst l => ∃ vs, H a = some (.lst vs) ∧ RepL K F vs l
  | .dic l => ∃ ks vs ds, H a = some (.dK (List.zip ks vs)) ∧ List.length ks = List.length ds ∧ RepL K F vs ds ∧ l = ks.zip ds
  | .dit l => ∃ ks vs ds, H a = some (.dT (List.zip ks vs)) ∧ List.length ks = List.length ds ∧ RepL K F vs ds ∧ l = ks.zip ds
  | .obj C fs => ∃ dx ks vs ds, H a = some (.ins C dx (List.zip ks vs)) ∧ List.length ks = List.length ds ∧ RepL K F vs ds ∧ fs = ks.zip ds
section
variable {K : PySem.W.Frag} {F F' H H' : Hp} {a : Addr} {o : OB}
theorem ORep.mono (h : ORep K F H a o) (e : Ex F F') (k : ∀ u, H a = some u → H' a = some u) : ORep K F' H' a o := by
  cases o with
  | lst l => obtain ⟨vs, x, r⟩ := h; exact ⟨vs, k _ x, r.mono e⟩
  | dic l => obtain ⟨ks, vs, ds, x, z, r, q⟩ := h; exact ⟨ks, vs, ds, k _ x, z, r.mono e, q⟩
  | dit l => obtain ⟨ks, vs, ds, x, z, r, q⟩ := h; exact ⟨ks, vs, ds, k _ x, z, r.mono e, q⟩
  | obj C fs => obtain ⟨dx, ks, vs, ds, x, z, r, q⟩ := h; exact ⟨dx, ks, vs, ds, k _ x, z, r.mono e, q⟩
theorem ORep.ho (h : ORep K F H a o) : ∃ u, H a = some u := by
  cases o with
  | lst l => obtain ⟨vs, x, r⟩ := h; exact ⟨_, x⟩
  | dic l => obtain ⟨ks, vs, ds, x, _⟩ := h; exact ⟨_, x⟩
  | dit l => obtain ⟨ks, vs, ds, x, _⟩ := h; exact ⟨_, x⟩
  | obj C fs => obtain ⟨dx, ks, vs, ds, x, _⟩ := h; exact ⟨_, x⟩
/-- an owned object, given up: from now on it stands -/
theorem ORep.give (h : ORep K F H a o) (n : F a = none) : ∃ u, H a = some u ∧ Rep K (upd F a u) (.ref a) o.d := by
  cases o with
  | lst l => obtain ⟨vs, x, r⟩ := h; exact ⟨_, x, .lst upd_same (r.mono (Ex.new n))⟩
  | dic l => obtain ⟨ks, vs, ds, x, z, r, q⟩ := h; subst q; exact ⟨_, x, .dic upd_same z (r.mono (Ex.new n))⟩
  | dit l => obtain ⟨ks, vs, ds, x, z, r, q⟩ := h; subst q; exact ⟨_, x, .dit upd_same z (r.mono (Ex.new n))⟩
  | obj C fs => obtain ⟨dx, ks, vs, ds, x, z, r, q⟩ := h; subst q; exact ⟨_, x, .obj upd_same z (r.mono (Ex.new n))⟩
end

/-- what grows between two moments: what stands (F) and all that is tracked (H) -/
structure Grow (F0 H0 F H : Hp) : Prop where
  gf : Ex F0 F
  gh : Ex H0 H
  fh : Ex F H
  gn : ∀ a, F a ≠ none → F0 a ≠ none ∨ H0 a = none
section
variable {F0 H0 F1 H1 F H : Hp}
theorem Grow.refl (e : Ex F H) : Grow F H F H := ⟨Ex.refl _, Ex.refl _, e, fun _ h => .inl h⟩
theorem Grow.trans (a : Grow F0 H0 F1 H1) (b : Grow F1 H1 F H) : Grow F0 H0 F H := ⟨a.gf.trans b.gf, a.gh.trans b.gh, b.fh, fun x h => by
  rcases b.gn x h with q | q
  · exact a.gn x q
  · exact .inr (a.gh.back q)⟩
/-- a new object, standing -/
theorem Grow.new {p : Addr} {o : HO} (g : Grow F0 H0 F H) (n : H p = none) : Grow F0 H0 (upd F p o) (upd H p o) := ⟨g.gf.trans (Ex.new (g.fh.back n)), g.gh.trans (Ex.new n), g.fh.both, fun x h => by
  by_cases q : x = p
  · subst q; exact .inr (g.gh.back n)
  · rw [upd_ne q] at h; exact g.gn x h⟩
/-- an owned new one is given up -/
theorem Grow.give {p : Addr} {o : HO} (g : Grow F0 H0 F H) (n : F p = none) (n0 : H0 p = none) (e : H p = some o) : Grow F0 H0 (upd F p o) H := ⟨g.gf.trans (Ex.new n), g.gh, g.fh.left e, fun x h => by
  by_cases q : x = p
  · subst q; exact .inr n0
  · rw [upd_ne q] at h; exact g.gn x h⟩
end

/-- where a def begins: what stands, what is tracked, which slots hold the objects handed in to be changed -/
structure Bs where
  F : Hp
  H : Hp
  fx : Nat → Option Addr
/-- the slots as they are known; oa i the address of what slot i owns -/
structure Sig (K : PySem.W.Frag) (b : Bs) (F : Hp) (oa : Nat → Addr) (σ : L2.St) (H : Hp) (env : Env) : Prop where
  g : Grow b.F b.H F H
  len : σ.length = env.length
  val : ∀ (i : Nat) (d : D), env[i]? = some (EV.val d) → ∃ v : V, σ[i]? = some (some v) ∧ Rep K F v d
  own : ∀ (i : Nat) (o : OB), env[i]? = some (EV.own o) → σ[i]? = some (some (.ref (oa i))) ∧ F (oa i) = none ∧ b.H (oa i) = none ∧ ORep K F H (oa i) o
  dist : ∀ (i j : Nat) (o u : OB), env[i]? = some (EV.own o) → env[j]? = some (.own u) → oa i = oa j → i = j
  fix : ∀ (i : Nat) (a : Addr), b.fx i = some a → oa i = a ∧ H a ≠ none
section
variable {K : PySem.W.Frag} {b : Bs} {F F1 H H1 : Hp} {oa : Nat → Addr} {σ : L2.St} {env env' : Env} {i : Nat} {v : V} {d : D} {o : OB}
/-- what is owned is not there where nothing is -/
theorem Sig.ne (S : Sig K b F oa σ H env) {p : Addr} (n : H p = none) (e : env[i]? = some (.own o)) : oa i ≠ p := fun q => by
  obtain ⟨_, _, _, r⟩ := S.own i o e
  obtain ⟨u, hu⟩ := r.ho
  rw [q, n] at hu; cases hu
/-- more stands, all else as it was -/
theorem Sig.grow (S : Sig K b F oa σ H env) (g : Grow F H F1 H1) : Sig K b F1 oa σ H1 env where
  g := S.g.trans g
  len := S.len
  val := fun i d e => by
    obtain ⟨v, h1, h2⟩ := S.val i d e
    exact ⟨v, h1, h2.mono g.gf⟩
  own := fun i o e => by
    obtain ⟨h1, h2, h3, h4⟩ := S.own i o e
    refine ⟨h1, ?_, h3, h4.mono g.gf fun u q => g.gh _ _ q⟩
    cases q : F1 (oa i) with
    | none => rfl
    | some u =>
      rcases g.gn (oa i) (by rw [q]; simp) with z | z
      · exact absurd h2 z
      · obtain ⟨w, hw⟩ := h4.ho
        rw [z] at hw; cases hw
  dist := S.dist
  fix := fun i c e => by
    obtain ⟨h1, h2⟩ := S.fix i c e
    refine ⟨h1, fun z => ?_⟩
    exact h2 (g.gh.back z)
theorem Sig.new {p : Addr} {u : HO} (S : Sig K b F oa σ H env) (n : H p = none) : Sig K b (upd F p u) oa σ (upd H p u) env := S.grow ((Grow.refl S.g.fh).new n)
/-- slot i holds v -/
theorem Sig.set (S : Sig K b F oa σ H env) (r : Rep K F v d) : Sig K b F oa (σ.set i (some v)) H (env.set i (.val d)) where
  g := S.g
  len := by simp [S.len]
  val := fun j e h => by
    by_cases q : i = j
    · subst q
      rw [List.getElem?_set] at h
      rw [List.getElem?_set]
      have l := S.len
      split at h
      · split at h
        · cases h
          refine ⟨v, ?_, r⟩
          simp_all
        · cases h
      · rename_i z; exact absurd rfl z
    · rw [List.getElem?_set_ne q] at h
      rw [List.getElem?_set_ne q]
      exact S.val j e h
  own := fun j e h => by
    by_cases q : i = j
    · subst q
      rw [List.getElem?_set] at h
      split at h
      · split at h <;> cases h
      · rename_i z; exact absurd rfl z
    · rw [List.getElem?_set_ne q] at h
      rw [List.getElem?_set_ne q]
      exact S.own j e h
  dist := fun j k e u h1 h2 => by
    have t : ∀ (j : Nat) (e : OB), (env.set i (.val d))[j]? = some (.own e) → env[j]? = some (.own e) := fun j e h => by
      by_cases q : i = j
      · subst q
        rw [List.getElem?_set] at h
        split at h
        · split at h <;> cases h
        · rename_i z; exact absurd rfl z
      · rw [List.getElem?_set_ne q] at h; exact h
    exact S.dist j k e u (t _ _ h1) (t _ _ h2)
  fix := S.fix
/-- the slot of what is owned, given up -/
theorem Sig.give (S : Sig K b F oa σ H env) (e : env[i]? = some (.own o)) : ∃ F', Sig K b F' oa σ H (env.set i (.val o.d)) ∧ Ex F F' := by
  obtain ⟨h1, h2, h3, h4⟩ := S.own i o e
  obtain ⟨u, hu, r⟩ := h4.give h2
  refine ⟨upd F (oa i) u, ⟨S.g.give h2 h3 hu, by simp [S.len], fun j w h => ?_, fun j w h => ?_, fun j k w x p q z => ?_, S.fix⟩, Ex.new h2⟩
  · by_cases q : i = j
    · subst q
      rw [List.getElem?_set] at h
      split at h
      · split at h
        · cases h; exact ⟨_, h1, r⟩
        · cases h
      · rename_i z; exact absurd rfl z
    · rw [List.getElem?_set_ne q] at h
      obtain ⟨v, x, y⟩ := S.val j w h
      exact ⟨v, x, y.mono (Ex.new h2)⟩
  · by_cases q : i = j
    · subst q
      rw [List.getElem?_set] at h
      split at h
      · split at h <;> cases h
      · rename_i z; exact absurd rfl z
    · rw [List.getElem?_set_ne q] at h
      obtain ⟨x1, x2, x3, x4⟩ := S.own j w h
      refine ⟨x1, ?_, x3, x4.mono (Ex.new h2) fun _ y => y⟩
      rw [upd_ne fun z => q (S.dist j i w o h e z).symm]
      exact x2
  · have t : ∀ (j : Nat) (e : OB), (env.set i (.val o.d))[j]? = some (.own e) → env[j]? = some (.own e) := fun j e h => by
      by_cases q : i = j
      · subst q
        rw [List.getElem?_set] at h
        split at h
        · split at h <;> cases h
        · rename_i z; exact absurd rfl z
      · rw [List.getElem?_set_ne q] at h; exact h
    exact S.dist j k w x (t _ _ p) (t _ _ q) z
/-- less is known: every slot as it was, or not told -/
def Env.le : Env → Env → Prop
  | [], [] => True
  | a :: r, b :: s => (b = .any ∨ b = a) ∧ Env.le r s
  | _, _ => False
theorem Env.le.get : ∀ {env env' : Env} {i : Nat} {x : EV}, Env.le env env' → env'[i]? = some x → x = .any ∨ env[i]? = some x
  | [], [], _, _, _, h => by simp at h
  | _ :: _, _ :: _, 0, _, l, h => by
    simp at h; subst h
    rcases l.1 with q | q
    · exact .inl q
    · exact .inr (by rw [q]; rfl)
  | _ :: r, _ :: s, i + 1, _, l, h => by
    rcases Env.le.get (i := i) l.2 (by simpa using h) with q | q
    · exact .inl q
    · exact .inr (by simpa using q)
  | [], _ :: _, _, _, l, _ => l.elim
  | _ :: _, [], _, _, l, _ => l.elim
theorem Env.le.length : ∀ {env env' : Env}, Env.le env env' → env.length = env'.length
  | [], [], _ => rfl
  | _ :: _, _ :: _, l => by rw [List.length_cons, List.length_cons, Env.le.length l.2]
  | [], _ :: _, l => l.elim
  | _ :: _, [], l => l.elim
theorem Env.le.rfl : ∀ {env : Env}, Env.le env env
  | [] => trivial
  | _ :: _ => ⟨.inr (by rfl), Env.le.rfl⟩
theorem Sig.le (S : Sig K b F oa σ H env) (l : Env.le env env') : Sig K b F oa σ H env' where
  g := S.g
  len := by rw [S.len, l.length]
  val := fun i d e => by
    rcases l.get e with q | q
    · cases q
    · exact S.val i d q
  own := fun i o e => by
    rcases l.get e with q | q
    · cases q
    · exact S.own i o q
  dist := fun i j o u e f z => by
    rcases l.get e with q | q
    · cases q
    · rcases l.get f with p | p
      · cases p
      · exact S.dist i j o u q p z
  fix := S.fix
/-- a new one that no slot owns stands from now on -/
theorem Sig.stand {a : Addr} {u : HO} (S : Sig K b F oa σ H env) (n : F a = none) (n0 : b.H a = none) (ne : ∀ (j : Nat) (o : OB), env[j]? = some (.own o) → oa j ≠ a) (h : H a = some u) : Sig K b (upd F a u) oa σ H env where
  g := S.g.give n n0 h
  len := S.len
  val := fun i d e => by
    obtain ⟨v, h1, h2⟩ := S.val i d e
    exact ⟨v, h1, h2.mono (Ex.new n)⟩
  own := fun i o e => by
    obtain ⟨h1, h2, h3, h4⟩ := S.own i o e
    exact ⟨h1, by rw [upd_ne (ne i o e)]; exact h2, h3, h4.mono (Ex.new n) fun _ q => q⟩
  dist := S.dist
  fix := S.fix
end
end DL

namespace DL
open PySem L2

/-- what an expression gives: data that stands, or what a slot owns -/
inductive Res where
  | val (d : D) | slot (i : Nat)
def RR (K : PySem.W.Frag) (F : Hp) (oa : Nat → Addr) (v : V) : Res → Prop
  | .val d => Rep K F v d
  | .slot i => v = .ref (oa i)
/-- it reads as d -/
def Rd (env : Env) : Res → D → Prop
  | .val d, e => d = e
  | .slot i, e => ∃ o, env[i]? = some (.own o) ∧ o.d = e
section
variable {K : PySem.W.Frag} {b : Bs} {F F' H : Hp} {oa : Nat → Addr} {σ : L2.St} {env env' : Env} {v : V} {r : Res} {d : D} {l : List D}
theorem RR.mono (h : RR K F oa v r) (e : Ex F F') : RR K F' oa v r := by
  cases r with
  | val d => exact Rep.mono e h
  | slot i => exact h
theorem Rd.lst' (S : Sig K b F oa σ H env) (h : RR K F oa v r) (q : Rd env r (.lst l)) : ∃ a vs, v = .ref a ∧ H a = some (.lst vs) ∧ RepL K F vs l := by
  cases r with
  | val d =>
    cases (show d = .lst l from q)
    cases h with
    | lst x y => exact ⟨_, _, rfl, S.g.fh _ _ x, y⟩
  | slot i =>
    obtain ⟨o, e, z⟩ := q
    obtain ⟨_, _, _, x⟩ := S.own i o e
    cases o with
    | lst l' =>
      cases z
      obtain ⟨vs, x1, x2⟩ := x
      exact ⟨_, vs, h, x1, x2⟩
    | dic _ => cases z
    | dit _ => cases z
    | obj _ _ => cases z
theorem Rd.scr (S : Sig K b F oa σ H env) (h : RR K F oa v r) (q : Rd env r (.scr l)) : ∃ a vs, v = .ref a ∧ SqL K H a vs ∧ RepL K F vs l := by
  cases r with
  | val d =>
    cases (show d = .scr l from q)
    cases h with
    | scr x y => exact ⟨_, _, rfl, S.g.fh.l x, y⟩
  | slot i =>
    obtain ⟨o, e, z⟩ := q
    cases o <;> cases z
/-- a list to be read: one of the call's own, or the script -/
def RdL (env : Env) (r : Res) (k : List D) : Prop := Rd env r (.lst k) ∨ Rd env r (.scr k)
theorem RdL.g (S : Sig K b F oa σ H env) (h : RR K F oa v r) (q : RdL env r l) : ∃ a vs, v = .ref a ∧ SqL K H a vs ∧ RepL K F vs l := by
  rcases q with q | q
  · obtain ⟨a, vs, e, s, p⟩ := Rd.lst' S h q
    exact ⟨a, vs, e, .inl (.inl s), p⟩
  · exact Rd.scr S h q
theorem Rd.tup (S : Sig K b F oa σ H env) (h : RR K F oa v r) (q : Rd env r (.tup l)) : ∃ a vs, v = .ref a ∧ SqT K H a vs ∧ RepL K F vs l := by
  cases r with
  | val d =>
    cases (show d = .tup l from q)
    cases h with
    | tup x y => exact ⟨_, _, rfl, S.g.fh.t x, y⟩
  | slot i =>
    obtain ⟨o, e, z⟩ := q
    cases o <;> cases z
theorem Rd.flat (h : RR K F oa v r) (q : Rd env r d) (f : flat d = true) : Rep K F v d := by
  cases r with
  | val e => cases (show e = d from q); exact h
  | slot i =>
    obtain ⟨o, e, z⟩ := q
    cases o <;> (subst z; cases f)
/-- read as it stands in the whole heap -/
theorem Rd.rep (S : Sig K b F oa σ H env) (h : RR K F oa v r) (q : Rd env r d) : Rep K H v d := by
  cases r with
  | val e => cases (show e = d from q); exact Rep.mono S.g.fh h
  | slot i =>
    obtain ⟨o, e, z⟩ := q
    subst z
    cases (show v = .ref (oa i) from h)
    obtain ⟨_, _, _, x⟩ := S.own i o e
    cases o with
    | lst l' => obtain ⟨vs, x1, x2⟩ := x; exact .lst x1 (x2.mono S.g.fh)
    | dic l' => obtain ⟨ks, vs, ds, x1, x2, x3, x4⟩ := x; subst x4; exact .dic x1 x2 (x3.mono S.g.fh)
    | dit l' => obtain ⟨ks, vs, ds, x1, x2, x3, x4⟩ := x; subst x4; exact .dit x1 x2 (x3.mono S.g.fh)
    | obj C fs => obtain ⟨dx, ks, vs, ds, x1, x2, x3, x4⟩ := x; subst x4; exact .obj x1 x2 (x3.mono S.g.fh)
end

/-- what a step leaves: what stands stands; what no slot owns is as it was -/
structure Stp (oa : Nat → Addr) (env : Env) (F H : Hp) (env' : Env) (F' H' : Hp) : Prop where
  ff : Ex F F'
  kp : ∀ a u, H a = some u → (∀ (j : Nat) (o : OB), env[j]? = some (.own o) → oa j ≠ a) → H' a = some u
  gn : ∀ a, F' a ≠ none → F a ≠ none ∨ H a = none
  th : ∀ a, H a ≠ none → H' a ≠ none
  sub : ∀ (j : Nat) (o : OB), env'[j]? = some (.own o) → ∃ o', env[j]? = some (.own o')
section
variable {K : PySem.W.Frag} {b : Bs} {F F1 F2 H H1 H2 : Hp} {oa : Nat → Addr} {σ : L2.St} {env e1 e2 : Env} {p : Addr} {u : HO}
theorem Stp.refl : Stp oa env F H env F H := ⟨Ex.refl _, fun _ _ h _ => h, fun _ h => .inl h, fun _ h => h, fun j o h => ⟨o, h⟩⟩
theorem Stp.trans (x : Stp oa env F H e1 F1 H1) (y : Stp oa e1 F1 H1 e2 F2 H2) : Stp oa env F H e2 F2 H2 := ⟨x.ff.trans y.ff, fun a u h n => y.kp a u (x.kp a u h n) fun j o e => by
    obtain ⟨o', e'⟩ := x.sub j o e
    exact n j o' e', fun a h => by
    rcases y.gn a h with z | z
    · exact x.gn a z
    · refine .inr ?_
      cases w : H a with
      | none => rfl
      | some v => exact absurd z (x.th a (by rw [w]; simp)), fun a h => y.th a (x.th a h), fun j o e => by
    obtain ⟨o', e'⟩ := y.sub j o e
    exact x.sub j o' e'⟩
theorem Stp.new (n : H p = none) (nf : F p = none) : Stp oa env F H env (upd F p u) (upd H p u) := ⟨Ex.new nf, fun a v h _ => Ex.new n a v h, fun a h => by
    by_cases q : a = p
    · subst q; exact .inr n
    · rw [upd_ne q] at h; exact .inl h, fun a h z => h ((Ex.new n).back z), fun j o e => ⟨o, e⟩⟩
theorem Stp.newH (n : H p = none) : Stp oa env F H env F (upd H p u) := ⟨Ex.refl _, fun a v h _ => Ex.new n a v h, fun a h => .inl h, fun a h z => h ((Ex.new n).back z), fun j o e => ⟨o, e⟩⟩
theorem Stp.none (x : Stp oa env F H e1 F1 H1) (n : H1 p = none) : H p = none := by
  cases w : H p with
  | none => rfl
  | some v => exact absurd n (x.th p (by rw [w]; simp))
end

def Ev (K : PySem.W.Frag) (te : TE) (env : Env) (r : Res) (env' : Env) : Prop := ∀ (b : Bs) (F : Hp) (oa : Nat → Addr) (σ : L2.St) (H : Hp), Sig K b F oa σ H env → ∀ Q : VK,
  (∀ v F' H', Sig K b F' oa σ H' env' → Stp oa env F H env' F' H' → RR K F' oa v r → Q v H') → te σ H Q
/-- a new object that nobody has yet -/
def NewAt (K : PySem.W.Frag) (b : Bs) (F : Hp) (oa : Nat → Addr) (H : Hp) (env : Env) (a : Addr) (o : OB) : Prop :=
  F a = none ∧ b.H a = none ∧ (∀ (j : Nat) (u : OB), env[j]? = some (.own u) → oa j ≠ a) ∧ (∀ j, b.fx j ≠ some a) ∧ ORep K F H a o
def EvN (K : PySem.W.Frag) (te : TE) (env : Env) (o : OB) (env' : Env) : Prop := ∀ (b : Bs) (F : Hp) (oa : Nat → Addr) (σ : L2.St) (H : Hp), Sig K b F oa σ H env → ∀ Q : VK,
  (∀ a F' H', Sig K b F' oa σ H' env' → Stp oa env F H env' F' H' → H a = none → NewAt K b F' oa H' env' a o → Q (.ref a) H') → te σ H Q
def RRs (K : PySem.W.Frag) (F : Hp) (oa : Nat → Addr) : List V → List Res → Prop
  | [], [] => True
  | v :: vs, r :: rs => RR K F oa v r ∧ RRs K F oa vs rs
  | _, _ => False
theorem RRs.mono {K : PySem.W.Frag} {F F' : Hp} {oa : Nat → Addr} (e : Ex F F') : ∀ {vs : List V} {rs : List Res}, RRs K F oa vs rs → RRs K F' oa vs rs
  | [], [], _ => trivial
  | _ :: _, _ :: _, h => ⟨h.1.mono e, RRs.mono e h.2⟩
  | [], _ :: _, h => h.elim
  | _ :: _, [], h => h.elim
section
variable {K : PySem.W.Frag} {te ta tb tc : TE} {t u : TT} {env e1 e2 e3 : Env} {r r1 r2 : Res} {d : D} {o : OB} {i j : Nat} {n m : Int}
theorem Ev.give (h : EvN K te env o e1) : Ev K te env (.val o.d) e1 := fun b F oa σ H S Q k => h b F oa σ H S Q fun a F' H' S' e na ⟨n, n0, ne, _, x⟩ => by
  obtain ⟨u, hu, r⟩ := x.give n
  refine k _ _ _ (S'.stand n n0 ne hu) ⟨e.ff.trans (Ex.new n), e.kp, fun c h => ?_, e.th, e.sub⟩ r
  by_cases q : c = a
  · subst q; exact .inr na
  · rw [upd_ne q] at h; exact e.gn c h
end
end DL

namespace DL
open PySem L2

/-! ### operators by all that they serve -/
theorem OpR.or {X : Cx} {f : Value → Value → Sem Value} {r1 r2 : R2} (h1 : OpR X f r1) (h2 : OpR X f r2) : OpR X f (fun x y H Q => r1 x y H Q ∨ r2 x y H Q) := by
  intro pins s σ H x y v u Q I rx ry h
  rcases h with h | h
  · exact h1 pins s σ H x y v u Q I rx ry h
  · exact h2 pins s σ H x y v u Q I rx ry h
theorem CallR.or {X : Cx} {f : Value} {r1 r2 : List V → Hp → VK → Prop} (h1 : CallR X f r1) (h2 : CallR X f r2) : CallR X f (fun xs H Q => r1 xs H Q ∨ r2 xs H Q) := by
  intro pins s σ H xs us Q I r h
  rcases h with h | h
  · exact h1 pins s σ H xs us Q I r h
  · exact h2 pins s σ H xs us Q I r h
def rS : R2 := fun x y H Q => ∃ i j, x = .str i ∧ y = .str j ∧ i.length + j.length ≤ sizeLine ∧ Q (.str (i ++ j)) H
def rAddU (K : PySem.W.Frag) : R2 := fun x y H Q => rI0 (fun i j => .int (i + j)) x y H Q ∨ (rS x y H Q ∨ (rCatA K x y H Q ∨ rCat x y H Q))
theorem op_addU {X : Cx} {K : PySem.W.Frag} (e : X.K = K := by rfl) : OpR X (binaryOp .Add) (rAddU K) := by subst e; exact OpR.or op_add (OpR.or op_add_str (OpR.or op_catA op_cat))
def rSubU : R2 := rI0 fun i j => .int (i - j)
theorem op_subU {X : Cx} : OpR X (binaryOp .Sub) rSubU := op_sub
def rMulU : R2 := fun x y H Q => rI CMul (fun i j => .int (i * j)) x y H Q ∨ (rI CMulX (fun i j => .int (i * j)) x y H Q ∨ rRep x y H Q)
theorem op_mulU {X : Cx} : OpR X (binaryOp .Mult) rMulU := OpR.or op_mul (OpR.or op_mulX op_rep)
def rDivU : R2 := rI CDivW fun i j => .int (i / j)
theorem op_divU {X : Cx} : OpR X (binaryOp .FloorDiv) rDivU := op_fdivW
def rModU : R2 := rI (fun _ j => 0 < j) fun i j => .int (i % j)
theorem op_modU {X : Cx} : OpR X (binaryOp .Mod) rModU := op_mod
def rPowU : R2 := rI CPow fun i j => .int (i ^ j.toNat)
theorem op_powU {X : Cx} : OpR X (binaryOp .Pow) rPowU := op_pow
def rShlU : R2 := rI CShl fun i j => .int (i * 2 ^ j.toNat)
theorem op_shlU {X : Cx} : OpR X (binaryOp .LShift) rShlU := op_shlW
def rShrU : R2 := rI (fun _ j => 0 ≤ j) fun i j => .int (i / 2 ^ j.toNat)
theorem op_shrU {X : Cx} : OpR X (binaryOp .RShift) rShrU := op_shr
def rAndU : R2 := rI0 fun i j => .int (Builtin.bitAnd i j)
theorem op_andU {X : Cx} : OpR X (binaryOp .BitAnd) rAndU := op_and
def rOrU : R2 := rI0 fun i j => .int (Builtin.bitOr i j)
theorem op_orU {X : Cx} : OpR X (binaryOp .BitOr) rOrU := op_or
def rXorU : R2 := rI0 fun i j => .int (Builtin.bitXor i j)
theorem op_xorU {X : Cx} : OpR X (binaryOp .BitXor) rXorU := op_xor
def rLtU : R2 := rI0 fun i j => .bl (decide (i < j))
def rLeU : R2 := rI0 fun i j => .bl (decide (i ≤ j))
def rGtU : R2 := rI0 fun i j => .bl (decide (j < i))
def rGeU : R2 := rI0 fun i j => .bl (decide (j ≤ i))
theorem op_ltU {X : Cx} : OpR X (compareOp .Lt) rLtU := op_lt
theorem op_leU {X : Cx} : OpR X (compareOp .LtE) rLeU := op_le
theorem op_gtU {X : Cx} : OpR X (compareOp .Gt) rGtU := op_gt
theorem op_geU {X : Cx} : OpR X (compareOp .GtE) rGeU := op_ge
def rIsNn : R2 := fun x y H Q => y = .non ∧ Q (.bl (decide (x = .non))) H
def rNotNn : R2 := fun x y H Q => y = .non ∧ Q (.bl (!decide (x = .non))) H
def rIsU : R2 := fun x y H Q => rIsNn x y H Q ∨ rIsB x y H Q
def rNotU : R2 := fun x y H Q => rNotNn x y H Q ∨ rNotB x y H Q
theorem op_isU {X : Cx} : OpR X (compareOp .Is) rIsU := OpR.or op_isN op_isBl
theorem op_notU {X : Cx} : OpR X (compareOp .IsNot) rNotU := OpR.or op_notN op_notBl
def rLen1 (K : PySem.W.Frag) : List V → Hp → VK → Prop := fun xs H Q => ∃ x n, xs = [x] ∧ LenV K x H n ∧ Q (.int n) H
def rLen2 : List V → Hp → VK → Prop := fun xs H Q => ∃ a kvs, xs = [V.ref a] ∧ H a = some (.dK kvs) ∧ Q (.int kvs.length) H
def rLenU (K : PySem.W.Frag) : List V → Hp → VK → Prop := fun xs H Q => rLen1 K xs H Q ∨ rLen2 xs H Q
theorem call_lenU {X : Cx} {K : PySem.W.Frag} (e : X.K = K := by rfl) : CallR X (.builtin "len") (rLenU K) := by subst e; exact CallR.or call_len call_lenD
theorem call_allU {X : Cx} {K : PySem.W.Frag} (hc : X.calm = true) (e : X.K = K := by rfl) : CallR X (.builtin "all") (rAll K) := by subst e; exact cr_all hc
theorem call_sumU {X : Cx} {K : PySem.W.Frag} (hc : X.calm = true) (e : X.K = K := by rfl) : CallR X (.builtin "sum") (rSum K) := by subst e; exact cr_sum hc
theorem ix_U {X : Cx} {K : PySem.W.Frag} (e : X.K = K := by rfl) : IxR X (rIx K) := by subst e; exact ix_seq
def rAbs : List V → Hp → VK → Prop := fun xs H Q => ∃ i, xs = [.int i] ∧ Q (.int (if i < 0 then -i else i)) H
theorem call_absU {X : Cx} : CallR X (.builtin "abs") rAbs := call_abs
def rMax2 : List V → Hp → VK → Prop := fun xs H Q => ∃ i j, xs = [.int i, .int j] ∧ Q (.int (if j > i then j else i)) H
def rMin2 : List V → Hp → VK → Prop := fun xs H Q => ∃ i j, xs = [.int i, .int j] ∧ Q (.int (if j < i then j else i)) H
theorem call_max2U {X : Cx} (hc : X.calm = true) : CallR X (.builtin "max") rMax2 := call_max2 hc
theorem call_min2U {X : Cx} (hc : X.calm = true) : CallR X (.builtin "min") rMin2 := call_min2 hc
def rInt1 : List V → Hp → VK → Prop := fun xs H Q => (∃ i, xs = [.int i] ∧ Q (.int i) H) ∨ ∃ k, xs = [.bl k] ∧ Q (.int (if k then 1 else 0)) H
theorem call_intU {X : Cx} : CallR X (.type "int") rInt1 := call_int1
def rListOf (K : PySem.W.Frag) : List V → Hp → VK → Prop := fun xs H Q => ∃ p ys, xs = [.ref p] ∧ (SqL K H p ys ∨ SqT K H p ys) ∧ ∀ l, H l = none → Q (.ref l) (upd H l (.lst ys))
theorem call_listU {X : Cx} {K : PySem.W.Frag} (e : X.K = K := by rfl) : CallR X (.type "list") (rListOf K) := by subst e; exact call_list_of
def rTupleOf (K : PySem.W.Frag) : List V → Hp → VK → Prop := fun xs H Q => ∃ p ys, xs = [.ref p] ∧ ((SqL K H p ys ∧ ∀ l, H l = none → Q (.ref l) (upd H l (.tup ys))) ∨ (SqT K H p ys ∧ Q (.ref p) H))
theorem call_tupleU {X : Cx} {K : PySem.W.Frag} (e : X.K = K := by rfl) : CallR X (.type "tuple") (rTupleOf K) := by subst e; exact call_tuple_of
def rSlU (K : PySem.W.Frag) : V → Option Int → Option Int → Hp → VK → Prop := fun x lo hi H Q => rSlL K x lo hi H Q ∨ (rSlA K x lo hi H Q ∨ rSlS x lo hi H Q)
theorem SlR.or {X : Cx} {r1 r2 : V → Option Int → Option Int → Hp → VK → Prop} (h1 : SlR X r1) (h2 : SlR X r2) : SlR X (fun x l u H Q => r1 x l u H Q ∨ r2 x l u H Q) := by
  intro pins s σ H x v vl vu l u sl Q I rx hs pl pu h
  rcases h with h | h
  · exact h1 pins s σ H x v vl vu l u sl Q I rx hs pl pu h
  · exact h2 pins s σ H x v vl vu l u sl Q I rx hs pl pu h
theorem sl_U {X : Cx} {K : PySem.W.Frag} (e : X.K = K := by rfl) : SlR X (rSlU K) := by subst e; exact SlR.or sl_list (SlR.or sl_tupA sl_str)

/-! ### PyData of data -/
mutual
def py : D → Option PyData
  | .non => some .none
  | .bl b => some (.bool b)
  | .int i => some (.int i)
  | .str x => some (.str x)
  | .tup l => (pys l).map .tuple
  | .lst l => (pys l).map .list
  | .ty _ => none
  | .scr _ => none
  | .ref _ => none
  | .dic _ => none
  | .dit _ => none
  | .obj _ _ => none
  | .exc _ => none
def pys : List D → Option (List PyData)
  | [] => some []
  | d :: r => match py d, pys r with
    | some x, some y => some (x :: y)
    | _, _ => none
end
mutual
theorem Rep.dp {K : PySem.W.Frag} {H : Hp} : ∀ {v : V} {d : D} {p : PyData}, Rep K H v d → py d = some p → Dp K H v p
  | _, _, _, .non, e => by unfold py at e; cases e; exact .non
  | _, _, _, .bl b, e => by unfold py at e; cases e; exact .bl b
  | _, _, _, .int b, e => by unfold py at e; cases e; exact .int b
  | _, _, _, .str b, e => by unfold py at e; cases e; exact .str b
  | _, _, _, .tup (l := l) h r, e => by
    unfold py at e
    cases q : pys l with
    | none => rw [q] at e; cases e
    | some x => rw [q] at e; cases e; exact .tup h (RepL.dp r q)
  | _, _, _, .lst (l := l) h r, e => by
    unfold py at e
    cases q : pys l with
    | none => rw [q] at e; cases e
    | some x => rw [q] at e; cases e; exact .lst (.inl (.inl h)) (RepL.dp r q)
  | _, _, _, .ty _, e => by unfold py at e; cases e
  | _, _, _, .scr _ _, e => by unfold py at e; cases e
  | _, _, _, .ref _, e => by unfold py at e; cases e
  | _, _, _, .dic _ _ _, e => by unfold py at e; cases e
  | _, _, _, .dit _ _ _, e => by unfold py at e; cases e
  | _, _, _, .obj _ _ _, e => by unfold py at e; cases e
  | _, _, _, .exc _, e => by unfold py at e; cases e
theorem RepL.dp {K : PySem.W.Frag} {H : Hp} : ∀ {vs : List V} {ds : List D} {ps : List PyData}, RepL K H vs ds → pys ds = some ps → DpAll K H vs ps
  | _, _, _, .nil, e => by unfold pys at e; cases e; exact .nil
  | _, _, _, .cons (d := d) (ds := ds) h r, e => by
    unfold pys at e
    cases q1 : py d with
    | none => rw [q1] at e; cases e
    | some x =>
      cases q2 : pys ds with
      | none => rw [q1, q2] at e; cases e
      | some y => rw [q1, q2] at e; cases e; exact .cons (Rep.dp h q1) (RepL.dp r q2)
end
section
variable {K : PySem.W.Frag} {te ta tb tc : TE} {t u : TT} {env e1 e2 e3 : Env} {r r1 r2 : Res} {d d1 d2 : D} {o : OB} {i j : Int} {x y : Str} {c c1 c2 : Bool} {l m : List D}
/-! ### operators -/
def isNon : D → Bool
  | .non => true
  | _ => false
theorem rep_non {F : Hp} {v : V} (h : Rep K F v d) : decide (v = V.non) = isNon d := by
  cases h <;> first | rfl | simp [isNon]
/-! ### tests -/
/-! ### calls of built-ins -/
end
end DL

namespace DL
open PySem L2

section
variable {K : PySem.W.Frag} {te ta tb tc : TE} {t u : TT} {env e1 e2 e3 : Env} {r r1 r2 : Res} {d d1 d2 : D} {o : OB} {i j : Int} {x y : Str} {c c1 c2 : Bool} {l m : List D}
/-! ### isinstance -/
/-! ### subscripts -/
def cutD {α : Type} (xs : List α) (lo hi : Option Int) : List α := (xs.drop (HT.sIx xs.length 0 lo)).take (HT.sIx xs.length xs.length hi - HT.sIx xs.length 0 lo)
theorem cut_rep {F : Hp} {vs : List V} {lo hi : Option Int} (h : RepL K F vs l) : RepL K F (cutV vs lo hi) (cutD l lo hi) := by
  unfold cutV cutD
  rw [h.length]
  exact (h.drop _).take _
/-! ### displays, list(..), tuple(..), + -/
/-! ### what is walked -/
/-- both: for x in e, by what e is -/
def iSeqU (K : PySem.W.Frag) (te : TE) : TI := fun σ H R => iList K te σ H R ∨ (iTup K te σ H R ∨ iStr te σ H R)
theorem PI.or {X : Cx} {tg e : Expr} {w1 w2 : TI} (h1 : PI X tg e w1) (h2 : PI X tg e w2) : PI X tg e (fun σ H R => w1 σ H R ∨ w2 σ H R) := ⟨fun pins s σ H R I h => by
  rcases h with h | h
  · exact h1.run pins s σ H R I h
  · exact h2.run pins s σ H R I h⟩
theorem pi_seqU {X : Cx} {K : PySem.W.Frag} {tg e : Expr} {te : TE} (h : PE X e te) (q : X.K = K := by rfl) : PI X tg e (iSeqU K te) := by subst q; exact PI.or (pi_list h) (PI.or (pi_tup h) (pi_str h))
/-- the ints of a range -/
def rng (lo : Int) (n : Nat) : List D := (List.range n).map fun i => .int (lo + (i : Nat))
def rngC (lo c : Int) (n : Nat) : List D := (List.range n).map fun i => .int (lo + (i : Nat) * c)
theorem rng_get {lo : Int} {n i : Nat} {d : D} (h : (rng lo n)[i]? = some d) : d = .int (lo + (i : Nat)) ∧ i < n := by
  unfold rng at h
  rw [List.getElem?_map] at h
  by_cases q : i < n
  · rw [List.getElem?_range q] at h; cases h; exact ⟨rfl, q⟩
  · rw [List.getElem?_eq_none (by simpa using Nat.le_of_not_lt q)] at h; cases h
theorem rngC_get {lo c : Int} {n i : Nat} {d : D} (h : (rngC lo c n)[i]? = some d) : d = .int (lo + (i : Nat) * c) ∧ i < n := by
  unfold rngC at h
  rw [List.getElem?_map] at h
  by_cases q : i < n
  · rw [List.getElem?_range q] at h; cases h; exact ⟨rfl, q⟩
  · rw [List.getElem?_eq_none (by simpa using Nat.le_of_not_lt q)] at h; cases h
theorem rng_len {lo : Int} {n : Nat} : (rng lo n).length = n := by unfold rng; simp
theorem rngC_len {lo c : Int} {n : Nat} : (rngC lo c n).length = n := by unfold rngC; simp
end
end DL

namespace DL
open PySem L2

/-! ### targets -/
section
variable {K : PySem.W.Frag} {te ta tb tc : TE} {t u : TT} {env env' e1 e2 e3 : Env} {r r1 r2 : Res} {d d1 d2 : D} {o : OB} {i j : Nat} {c c1 c2 : Bool} {l m : List D} {g : TG}
/-! ### comprehensions -/
def wipeE (env : Env) : List Nat → Env
  | [] => env
  | v :: vs => (wipeE env vs).set v .any
theorem wipeE_len (env : Env) : ∀ vs : List Nat, (wipeE env vs).length = env.length
  | [] => rfl
  | v :: vs => by unfold wipeE; rw [List.length_set, wipeE_len env vs]
theorem wipeE_get {x : EV} : ∀ {vs : List Nat} {i : Nat}, (wipeE env vs)[i]? = some x → x = .any ∨ (i ∉ vs ∧ env[i]? = some x)
  | [], i, h => .inr ⟨by simp, h⟩
  | v :: vs, i, h => by
    unfold wipeE at h
    by_cases q : v = i
    · subst q
      rw [List.getElem?_set] at h
      split at h
      · split at h
        · cases h; exact .inl rfl
        · cases h
      · rename_i z; exact absurd rfl z
    · rw [List.getElem?_set_ne q] at h
      rcases wipeE_get h with z | ⟨z1, z2⟩
      · exact .inl z
      · exact .inr ⟨by simp only [List.mem_cons, not_or]; exact ⟨fun z => q z.symm, z1⟩, z2⟩
theorem wipe_out {σ : L2.St} : ∀ {vs : List Nat} {i : Nat}, i ∉ vs → (wipe σ vs)[i]? = σ[i]?
  | [], _, _ => rfl
  | v :: vs, i, h => by
    simp only [List.mem_cons, not_or] at h
    unfold wipe
    rw [List.getElem?_set_ne (Ne.symm h.1), wipe_out h.2]
theorem Sig.wiped {b : Bs} {F : Hp} {oa : Nat → Addr} {σ : L2.St} {H : Hp} (S : Sig K b F oa σ H env) (vs : List Nat) : Sig K b F oa (L2.wipe σ vs) H (wipeE env vs) where
  g := S.g
  len := by rw [wipe_length, wipeE_len, S.len]
  val := fun i d e => by
    rcases wipeE_get e with q | ⟨q, e⟩
    · cases q
    · rw [wipe_out q]; exact S.val i d e
  own := fun i o e => by
    rcases wipeE_get e with q | ⟨q, e⟩
    · cases q
    · rw [wipe_out q]; exact S.own i o e
  dist := fun i j o u e f z => by
    rcases wipeE_get e with q | ⟨_, e⟩
    · cases q
    · rcases wipeE_get f with q | ⟨_, f⟩
      · cases q
      · exact S.dist i j o u e f z
  fix := S.fix
/-- behind a turn: the slots vs as they were ahead, the others as they are -/
def back (vs : List Nat) : Nat → Env → Env → Env
  | n, a :: r, x :: s => (if vs.contains n then a else x) :: back vs (n + 1) r s
  | _, _, _ => []
end
end DL

namespace DL
open PySem L2

/-- what a def hands back -/
inductive Ret where
  | val (d : D) | new (o : OB) | exc (C : Addr)
def RetR (K : PySem.W.Frag) (b : Bs) (F : Hp) (H : Hp) (v : V) : Ret → Prop
  | .val d => Rep K F v d
  | .new o => ∃ a, v = .ref a ∧ F a = none ∧ b.H a = none ∧ (∀ j, b.fx j ≠ some a) ∧ ORep K F H a o
  | .exc _ => False
structure Sat (K : PySem.W.Frag) (b : Bs) (F : Hp) (W : WX) (D : Ends) (N B C : Env → Prop) (R : Ret → Env → Prop) : Prop where
  nx : ∀ env F' oa σ H, N env → Sig K b F' oa σ H env → Ex F F' → D.nx σ H
  bk : ∀ env F' oa σ H, B env → Sig K b F' oa σ H env → Ex F F' → D.bk σ H
  ct : ∀ env F' oa σ H, C env → Sig K b F' oa σ H env → Ex F F' → D.ct σ H
  rt : ∀ r env F' oa σ H v, R r env → Sig K b F' oa σ H env → Ex F F' → RetR K b F' H v r → D.rt v H
  xc : ∀ X env F' oa σ H, R (.exc X) env → Sig K b F' oa σ H env → Ex F F' → W (.ref X) none σ H
theorem Sat.mono {K : PySem.W.Frag} {b : Bs} {F F1 : Hp} {W : WX} {D : Ends} {N B C : Env → Prop} {R : Ret → Env → Prop} (s : Sat K b F W D N B C R) (e : Ex F F1) : Sat K b F1 W D N B C R :=
  ⟨fun env F' oa σ H h S x => s.nx env F' oa σ H h S (e.trans x), fun env F' oa σ H h S x => s.bk env F' oa σ H h S (e.trans x), fun env F' oa σ H h S x => s.ct env F' oa σ H h S (e.trans x), fun r env F' oa σ H v h S x q => s.rt r env F' oa σ H v h S (e.trans x) q, fun X env F' oa σ H h S x => s.xc X env F' oa σ H h S (e.trans x)⟩
/-- a statement: from env it goes on (N), breaks (B), continues (C), or hands back (R); pr: the slots whose objects were handed in to be changed -/
def Exec (K : PySem.W.Frag) (pr : List Nat) (W : WX) (t : TS) (env : Env) (N B C : Env → Prop) (R : Ret → Env → Prop) : Prop := ∀ (b : Bs) (F : Hp) (oa : Nat → Addr) (σ : L2.St) (H : Hp) (D : Ends),
  (∀ i, b.fx i ≠ none → i ∈ pr) → Sig K b F oa σ H env → Sat K b F W D N B C R → t D σ H

section
variable {K : PySem.W.Frag} {pr : List Nat} {W : WX} {te ta tb tc : TE} {t u : TT} {s s1 s2 : TS} {env env' e1 e2 e3 : Env} {r r1 r2 : Res} {d d1 d2 : D} {o : OB} {i j : Nat} {c c1 c2 : Bool} {l m : List D} {g : TG} {N N' B B' C C' : Env → Prop} {R R' : Ret → Env → Prop}
theorem x_mono (h : Exec K pr W s env N B C R) (hn : ∀ e, N e → N' e) (hb : ∀ e, B e → B' e) (hc : ∀ e, C e → C' e) (hr : ∀ r e, R r e → R' r e) : Exec K pr W s env N' B' C' R' := fun b F oa σ H D hp S st =>
  h b F oa σ H D hp S ⟨fun env F oa σ H h S => st.nx env F oa σ H (hn _ h) S, fun env F oa σ H h S => st.bk env F oa σ H (hb _ h) S, fun env F oa σ H h S => st.ct env F oa σ H (hc _ h) S, fun r env F oa σ H v h S x q => st.rt r env F oa σ H v (hr _ _ h) S x q, fun X env F oa σ H h S x => st.xc X env F oa σ H (hr _ _ h) S x⟩
end

/-! ### promises -/
/-- an argument: data, or an object handed in to be changed -/
inductive AV where
  | val (d : D) | own (o : OB)
structure ArgsR (K : PySem.W.Frag) (F H : Hp) (vs : List V) (as : List AV) : Prop where
  len : vs.length = as.length
  val : ∀ (i : Nat) (d : D), as[i]? = some (.val d) → ∃ v, vs[i]? = some v ∧ Rep K F v d
  own : ∀ (i : Nat) (o : OB), as[i]? = some (.own o) → ∃ a, vs[i]? = some (.ref a) ∧ F a = none ∧ ORep K F H a o
  dist : ∀ (i j : Nat) (o u : OB) (a : Addr), as[i]? = some (.own o) → as[j]? = some (.own u) → vs[i]? = some (.ref a) → vs[j]? = some (.ref a) → i = j
/-- an address of an object that was handed in to be changed -/
def ownA (vs : List V) (as : List AV) (a : Addr) : Prop := ∃ (i : Nat) (o : OB), as[i]? = some (.own o) ∧ vs[i]? = some (.ref a)
structure CallEnd (K : PySem.W.Frag) (F H F' H' : Hp) (vs : List V) (as as' : List AV) (v : V) (r : Ret) : Prop where
  ff : Ex F F'
  fh : Ex F' H'
  kp : ∀ a u, H a = some u → ¬ ownA vs as a → H' a = some u
  gn : ∀ a, F' a ≠ none → F a ≠ none ∨ H a = none
  th : ∀ a, H a ≠ none → H' a ≠ none
  own : ∀ (i : Nat) (o : OB), as[i]? = some (.own o) → ∃ o' a, as'[i]? = some (.own o') ∧ vs[i]? = some (.ref a) ∧ F' a = none ∧ ORep K F' H' a o'
  ret : match r with
    | .val d => Rep K F' v d
    | .new o => ∃ a, v = .ref a ∧ F' a = none ∧ H a = none ∧ ORep K F' H' a o
    | .exc _ => True
/-- what is wanted of what came -/
def outR (r : Ret) (E : XK) (Q : VK) (v : V) (H : Hp) : Prop := match r with
  | .exc C => E (.ref C) none H
  | _ => Q v H
/-- THE PROMISE: from arguments as it hands back r and leaves them as' -/
def SpG (K : PySem.W.Frag) (P : List AV → Ret → List AV → Prop) : Sp := fun vs H Q E => ∃ F as r as', Ex F H ∧ ArgsR K F H vs as ∧ P as r as' ∧ ∀ v F' H', CallEnd K F H F' H' vs as as' v r → outR r E Q v H'
def AV.ev : AV → EV
  | .val d => .val d
  | .own o => .own o
open Classical in
noncomputable def hideA (vs : List V) (as : List AV) (H : Hp) : Hp := fun a => if ownA vs as a then none else H a
theorem hideA_ex {vs : List V} {as : List AV} {H : Hp} : Ex (hideA vs as H) H := fun a o e => by
  unfold hideA at e
  split at e
  · cases e
  · exact e
/-- what was handed in is in its slots yet -/
def Held (as as' : List AV) (e : Env) : Prop := ∀ (i : Nat) (o : OB), as[i]? = some (AV.own o) → ∃ o', as'[i]? = some (AV.own o') ∧ e[i]? = some (EV.own o')
/-- a def's body keeps its promise -/
theorem run_SpG {K : PySem.W.Frag} {P : List AV → Ret → List AV → Prop} {Nm : List Str} {n : Nat} {t : TS} {vs : List V} {H : Hp} {Q : VK} {E : XK} (h : SpG K P vs H Q E) (hn : ∀ as r as', P as r as' → as.length = n ∧ n ≤ Nm.length)
    (body : ∀ as r as', P as r as' → ∃ pr : List Nat, (∀ (i : Nat) (o : OB), as[i]? = some (AV.own o) → i ∈ pr) ∧ Exec K pr (fun cls d _ H => E cls d H) t (as.map AV.ev ++ List.replicate (Nm.length - n) .any)
      (fun e => r = .val .non ∧ Held as as' e) (fun _ => False) (fun _ => False) (fun q e => q = r ∧ Held as as' e)) :
    t { nx := fun _ H' => Q .non H', rt := Q } (L2.start Nm vs) H := by
  obtain ⟨F, as, r, as', e, ar, p, k⟩ := h
  obtain ⟨hl, hnm⟩ := hn as r as' p
  obtain ⟨pr, hpr, hx⟩ := body as r as' p
  have lvs : vs.length = n := by rw [ar.len, hl]
  have stg : ∀ (i : Nat) (v : V), vs[i]? = some v → (L2.start Nm vs)[i]? = some (some v) := fun i v h => by
    unfold L2.start
    have hi : i < vs.length := (List.getElem?_eq_some_iff.mp h).1
    rw [List.getElem?_append_left (by simpa using hi), List.getElem?_map, h]; rfl
  have evg : ∀ (i : Nat) (x : EV), (as.map AV.ev ++ List.replicate (Nm.length - n) .any)[i]? = some x → x = .any ∨ ∃ a, as[i]? = some a ∧ x = a.ev := fun i x h => by
    by_cases hi : i < as.length
    · rw [List.getElem?_append_left (by simpa using hi), List.getElem?_map] at h
      cases z : as[i]? with
      | none => rw [z] at h; cases h
      | some a => rw [z] at h; cases h; exact .inr ⟨a, rfl, rfl⟩
    · rw [List.getElem?_append_right (by simpa using Nat.le_of_not_lt hi)] at h
      have := List.getElem?_eq_some_iff.mp h
      obtain ⟨h1, h2⟩ := this
      rw [List.getElem_replicate] at h2
      exact .inl h2.symm
  have evo : ∀ (i : Nat) (o : OB), (as.map AV.ev ++ List.replicate (Nm.length - n) .any)[i]? = some (.own o) → as[i]? = some (.own o) := fun i o h => by
    rcases evg i _ h with z | ⟨a, h1, h2⟩
    · cases z
    · cases a with
      | val d => cases h2
      | own u => cases h2; exact h1
  -- the addresses
  let oa : Nat → Addr := fun i => match vs[i]? with
    | some (.ref a) => a
    | _ => 0
  have oav : ∀ (i : Nat) (a : Addr), vs[i]? = some (.ref a) → oa i = a := fun i a h => by show (match vs[i]? with | some (.ref a) => a | _ => 0) = a; rw [h]
  let fx : Nat → Option Addr := fun i => match as[i]? with
    | some (.own _) => some (oa i)
    | _ => none
  have fxs : ∀ i a, fx i = some a → ∃ o, as[i]? = some (.own o) ∧ a = oa i := fun i a h => by
    have h' : (match as[i]? with | some (.own _) => some (oa i) | _ => none) = some a := h
    cases z : as[i]? with
    | none => rw [z] at h'; cases h'
    | some x =>
      rw [z] at h'
      cases x with
      | val d => cases h'
      | own o => cases h'; exact ⟨o, rfl, rfl⟩
  have hidN : ∀ (i : Nat) (o : OB) (a : Addr), as[i]? = some (.own o) → vs[i]? = some (.ref a) → hideA vs as H a = none := fun i o a h1 h2 => by
    unfold hideA
    rw [if_pos ⟨i, o, h1, h2⟩]
  have S : Sig K ⟨F, hideA vs as H, fx⟩ F oa (L2.start Nm vs) H (as.map AV.ev ++ List.replicate (Nm.length - n) .any) := by
    refine ⟨⟨Ex.refl _, hideA_ex, e, fun a h => .inl h⟩, ?_, fun i d h => ?_, fun i o h => ?_, fun i j o u h1 h2 q => ?_, fun i a h => ?_⟩
    · unfold L2.start; simp [lvs, hl]
    · rcases evg i _ h with z | ⟨a, h1, h2⟩
      · cases z
      · cases a with
        | own o => cases h2
        | val d' =>
          cases h2
          obtain ⟨v, q1, q2⟩ := ar.val i d h1
          exact ⟨v, stg i v q1, q2⟩
    · have h1 := evo i o h
      obtain ⟨a, q1, q2, q3⟩ := ar.own i o h1
      rw [oav i a q1]
      exact ⟨stg i _ q1, q2, hidN i o a h1 q1, q3⟩
    · have h1 := evo i o h1
      have h2 := evo j u h2
      obtain ⟨a, q1, _⟩ := ar.own i o h1
      obtain ⟨a', q1', _⟩ := ar.own j u h2
      rw [oav i a q1, oav j a' q1'] at q
      subst q
      exact ar.dist i j o u a h1 h2 q1 q1'
    · obtain ⟨o, h1, rfl⟩ := fxs i a h
      obtain ⟨a, q1, _, q3⟩ := ar.own i o h1
      obtain ⟨w, hw⟩ := q3.ho
      exact ⟨rfl, by rw [oav i a q1, hw]; simp⟩
  have fin : ∀ env F' oa' σ' H' v, Sig K ⟨F, hideA vs as H, fx⟩ F' oa' σ' H' env → Held as as' env → (RetR K ⟨F, hideA vs as H, fx⟩ F' H' v r ∨ ∃ C, r = .exc C) → outR r E Q v H' := fun env F' oa' σ' H' v S' ho hr => by
    have fxo : ∀ (i : Nat) (o : OB) (a : Addr), as[i]? = some (.own o) → vs[i]? = some (.ref a) → oa' i = a ∧ H' a ≠ none := fun i o a h1 h2 => by
      have q : fx i = some a := by
        show (match as[i]? with | some (.own _) => some (oa i) | _ => none) = some a
        rw [h1, oav i a h2]
      exact S'.fix i a q
    have hkp : ∀ a u, H a = some u → ¬ ownA vs as a → H' a = some u := fun a u h n => S'.g.gh a u (by
      show hideA vs as H a = some u
      unfold hideA
      rw [if_neg n]; exact h)
    refine k v F' H' ⟨S'.g.gf, S'.g.fh, hkp, fun a h => ?_, fun a h => ?_, fun i o h => ?_, ?_⟩
    · rcases S'.g.gn a h with q | q
      · exact .inl q
      · by_cases z : ownA vs as a
        · obtain ⟨i, o, h1, h2⟩ := z
          obtain ⟨o', h3, h4⟩ := ho i o h1
          obtain ⟨_, x2, _⟩ := S'.own i o' h4
          rw [(fxo i o a h1 h2).1] at x2
          exact absurd x2 h
        · refine .inr ?_
          have q' : hideA vs as H a = none := q
          unfold hideA at q'
          rw [if_neg z] at q'
          exact q'
    · by_cases z : ownA vs as a
      · obtain ⟨i, o, h1, h2⟩ := z
        exact (fxo i o a h1 h2).2
      · cases w : H a with
        | none => exact absurd w h
        | some u => rw [hkp a u w z]; simp
    · obtain ⟨o', h3, h4⟩ := ho i o h
      obtain ⟨a, q1, _⟩ := ar.own i o h
      obtain ⟨_, x2, _, x4⟩ := S'.own i o' h4
      rw [(fxo i o a h q1).1] at x2 x4
      exact ⟨o', a, h3, q1, x2, x4⟩
    · cases r with
      | exc C => trivial
      | val d =>
        rcases hr with hr | ⟨_, hr⟩
        · exact hr
        · cases hr
      | new o =>
        rcases hr with hr | ⟨_, hr⟩
        rotate_left
        · cases hr
        obtain ⟨a, rfl, h1, h2, h3, h4⟩ := hr
        refine ⟨a, rfl, h1, ?_, h4⟩
        have h2' : hideA vs as H a = none := h2
        unfold hideA at h2'
        split at h2'
        · rename_i z
          obtain ⟨i, o', h5, h6⟩ := z
          refine absurd ?_ (h3 i)
          show (match as[i]? with | some (.own _) => some (oa i) | _ => none) = some a
          rw [h5, oav i a h6]
        · exact h2'
  refine hx ⟨F, hideA vs as H, fx⟩ F oa (L2.start Nm vs) H _ (fun i h => ?_) S ⟨fun env F' oa σ H h S x => ?_, fun _ _ _ _ _ h => h.elim, fun _ _ _ _ _ h => h.elim, fun q env F' oa σ H v h S x hr => ?_, fun X env F' oa σ H h S x => ?_⟩
  · cases z : fx i with
    | none => exact absurd z h
    | some a =>
      obtain ⟨o, h1, _⟩ := fxs i a z
      exact hpr i o h1
  · obtain ⟨h1, h2⟩ := h
    subst h1
    exact fin env F' oa σ H .non S h2 (.inl .non)
  · obtain ⟨h1, h2⟩ := h
    subst h1
    have := fin env F' oa σ H v S h2 (.inl hr)
    cases q with
    | exc C => exact hr.elim
    | val d => exact this
    | new o => exact this
  · obtain ⟨h1, h2⟩ := h
    subst h1
    exact fin env F' oa σ H .non S h2 (.inr ⟨_, rfl⟩)
/-- raise C('..') -/
def tRaise (W : WX) (C : Addr) : TS := fun _ σ H => W (.ref C) none σ H
section
variable {K : PySem.W.Frag} {pr : List Nat} {W : WX} {env e1 : Env} {N B C : Env → Prop} {R : Ret → Env → Prop} {X : Addr}
end
end DL

namespace DL
open PySem L2

/-! ### calls -/
section
variable {K : PySem.W.Frag} {env e1 : Env} {P : List AV → Ret → List AV → Prop} {rs : List Res} {as as' : List AV} {d : D} {o : OB} {ta : TA} {E : XK}
def slots : List Res → List Nat
  | [] => []
  | .val _ :: r => slots r
  | .slot i :: r => i :: slots r
/-! ### expressions that raise -/
variable {W : WX} {X : Addr} {te tb tl : TE} {t u : TT} {rr : R2} {e2 : Env} {r : Res} {cc : Bool} {pr : List Nat} {N B C : Env → Prop} {R : Ret → Env → Prop} {g : TG}
end
end DL

/-! ### an exception that is caught, and kept by a name behind its clause -/
namespace L2
open PySem PySem.Spec PyProof.Rows DL
section
variable {X : Cx} {pins : List (Addr × Obj)} {σ : L2.St} {H : Hp} {s : Shared}
/-- what 'except x as n: m = n' wishes: slot j is m's, i is n's -/
def wKeep (K : PySem.W.Frag) (c : Value) (i j : Nat) (D : Ends) : WX := fun cls d σ H =>
  ∃ C, cls = .ref C ∧ d = none ∧ PySem.W.exmOne K cls c = some true ∧ ∀ a, H a = none → D.nx (((σ.set i (some (.ref a))).set j (some (.ref a))).set i none) (upd H a (ExK C a))
end
section
variable {X : Cx} {x n : Str} {c : Value} {i j : Nat} {body suite : List Stmt} {b₀ : Stmt} {np pos pos' : Pos} {tb : WX → TS}
end
end L2

namespace DL
open PySem L2
section
variable {K : PySem.W.Frag} {b : Bs} {F H : Hp} {oa : Nat → Addr} {σ : L2.St} {env : Env} {i j : Nat}
theorem Sig.unset (S : Sig K b F oa σ H env) : Sig K b F oa (σ.set i none) H (env.set i .any) where
  g := S.g
  len := by simp [S.len]
  val := fun n d e => by
    by_cases q : i = n
    · subst q
      rw [List.getElem?_set] at e
      split at e
      · split at e <;> cases e
      · rename_i z; exact absurd rfl z
    · rw [List.getElem?_set_ne q] at e
      rw [List.getElem?_set_ne q]
      exact S.val n d e
  own := fun n d e => by
    by_cases q : i = n
    · subst q
      rw [List.getElem?_set] at e
      split at e
      · split at e <;> cases e
      · rename_i z; exact absurd rfl z
    · rw [List.getElem?_set_ne q] at e
      rw [List.getElem?_set_ne q]
      exact S.own n d e
  dist := fun n m o u e f z => by
    have t : ∀ (n : Nat) (o : OB), (env.set i .any)[n]? = some (EV.own o) → env[n]? = some (EV.own o) := fun n o e => by
      by_cases q : i = n
      · subst q
        rw [List.getElem?_set] at e
        split at e
        · split at e <;> cases e
        · rename_i z; exact absurd rfl z
      · rw [List.getElem?_set_ne q] at e; exact e
    exact S.dist n m o u (t _ _ e) (t _ _ f) z
  fix := S.fix
end
/-- try: body / except c as n: m = n -/
def tTry (K : PySem.W.Frag) (c : Value) (i j : Nat) (tb : WX → TS) : TS := fun D σ H => tb (wKeep K c i j D) D σ H
section
variable {K : PySem.W.Frag} {pr : List Nat} {W : WX} {env : Env} {i j : Nat} {N B C : Env → Prop} {R : Ret → Env → Prop} {c : Value} {tb : WX → TS}
/-- what is caught goes on with slot j holding it -/
def caught (K : PySem.W.Frag) (c : Value) (i j : Nat) (N : Env → Prop) (R : Ret → Env → Prop) : Ret → Env → Prop := fun q e => match q with
  | .exc X => PySem.W.exmOne K (.ref X) c = some true ∧ N (((e.set i (.val (.exc X))).set j (.val (.exc X))).set i .any)
  | q => R q e
end

/-! ### isinstance, of exceptions too -/
def rIsX (K : PySem.W.Frag) : List V → Hp → VK → Prop := fun xs H Q => ∃ (a C : Addr) (c : V) (u : Value) (b : Bool), xs = [.ref a, c] ∧ H a = some (ExK C a) ∧ ExcC K C ∧ ClsV c u ∧ PySem.W.kitOne K (.ref C) u = some b ∧ Q (.bl b) H
def rIsXT (K : PySem.W.Frag) : List V → Hp → VK → Prop := fun xs H Q => ∃ (a C tp : Addr) (cs : List V) (us : List Value) (b : Bool), xs = [.ref a, .ref tp] ∧ H a = some (ExK C a) ∧ ExcC K C ∧ H tp = some (.tup cs) ∧ Paired ClsV cs us ∧ PySem.W.kitAny K (.ref C) us = some b ∧ Q (.bl b) H
theorem exk_at {X : Cx} {pins : List (Addr × Obj)} {σ : L2.St} {H : Hp} {s : Shared} {a C : Addr} (I : Inv X pins σ H s) (h : H a = some (ExK C a)) : ∃ oe, PySem.W.InstAt s.heap a oe C none := by
  obtain ⟨⟨oe, vs, h1, h2, h3⟩, _⟩ := (show ObjOk X.prog X.w H s.heap a (ExK C a) from I.hok a _ h)
  obtain ⟨oc, od, dt, sl⟩ := oe
  obtain ⟨z1, z2⟩ := h2
  dsimp only at z1 z2 h3
  subst z1 z2 h3
  exact ⟨_, h1, rfl, rfl, trivial⟩
section
variable {X : Cx}
theorem call_isX : CallR X (.builtin "isinstance") (rIsX X.K) := by
  intro pins s σ H xs us Q I r h
  obtain ⟨a, C, c, u, b, rfl, ha, x, k, e, q⟩ := h
  obtain ⟨u1, u2, rfl, r1, r2⟩ := vals2 r
  have e2 := k.eq r2
  subst e2
  cases (show u1 = Value.ref a from r1)
  obtain ⟨oe, J⟩ := exk_at I ha
  exact PySem.W.kia_one (PySem.W.handS_kitx_exc x.hg x.hk x.hs x.hd x.ha x.hn x.ht x.hm) I.kIn J e (fun z => nomatch z) fun tk => ⟨.bl b, H, I.tok tk, rfl, q⟩
theorem call_isXT : CallR X (.builtin "isinstance") (rIsXT X.K) := by
  intro pins s σ H xs us Q I r h
  obtain ⟨a, C, tp, cs, ws, b, rfl, ha, x, hT, k, e, q⟩ := h
  obtain ⟨u1, u2, rfl, r1, r2⟩ := vals2 r
  cases (show u1 = Value.ref a from r1)
  cases (show u2 = Value.ref tp from r2)
  obtain ⟨oe, J⟩ := exk_at I ha
  obtain ⟨_, its, rv, o, h1, h2, n, h3⟩ := (show ObjOk X.prog X.w H s.heap tp (.tup cs) from I.hok tp _ hT)
  have e3 := ClsV.all k rv
  subst e3
  obtain ⟨oc, od, dt, sl⟩ := o
  dsimp only at h2 h3
  subst h2 h3
  exact PySem.W.kia_tup (PySem.W.handS_kitx_exc x.hg x.hk x.hs x.hd x.ha x.hn x.ht x.hm) I.kIn J h1 e (fun z => nomatch z) fun tk => ⟨.bl b, H, I.tok tk, rfl, q⟩
end
def rIsiU (K : PySem.W.Frag) : List V → Hp → VK → Prop := fun xs H Q => rIsi K xs H Q ∨ (rIsiT K xs H Q ∨ (rIsX K xs H Q ∨ rIsXT K xs H Q))
theorem call_isiA {X : Cx} {K : PySem.W.Frag} (e : X.K = K := by rfl) : CallR X (.builtin "isinstance") (rIsiU K) := by subst e; exact CallR.or call_isi (CallR.or call_isiT (CallR.or call_isX call_isXT))
/-- raise C('..') -/
theorem ps_raiseC {X : Cx} {W : WX} {C : Addr} {e : Expr} {pos : Pos} (hc : X.calm = true) (tk : Takes X W) (he : PMk X e (fun _ H Q => Q (.ref C) none H)) : PS X (.Raise (some e) none pos) (tRaise W C) := ps_raise hc tk he
end DL

namespace DL
open PySem L2

/-! ### operators and built-ins by what their operands came to -/
section
variable {K : PySem.W.Frag} {te ta tb tc : TE} {t u : TT} {env e e1 e2 e3 : Env} {r r1 r2 r3 : Res} {d d1 d2 : D} {o : OB} {i j k' : Int} {x y : Str} {c c1 c2 : Bool} {l m : List D} {rr : R2}
end

/-! ### defs -/
/-- a def that may be called by its name -/
structure Df (P : Program) (w : World) (K : PySem.W.Frag) (mg : Str → Option Value) (base : Heap) (k : Nat) (x : Str) (sp : Sp) : Prop where
  ex : ∃ (f : Addr) (fd : FuncData) (ps : List Str), FnOk P w K mg base CX0 k f fd ps sp ∧ mg x = some (.ref f) ∧ PySem.W.keepIn K (.ref f) = true ∧ Binds K fd ps []
section
variable {X : Cx} {k j : Nat} {x : Str} {sp : Sp} {p pos : Pos} {e : Expr} {es : List Expr} {t : TA}
end
/-- .. that may raise -/
structure Dx (P : Program) (w : World) (K : PySem.W.Frag) (mg : Str → Option Value) (base : Heap) (k : Nat) (x : Str) (sp : Sp) : Prop where
  ex : ∃ (f : Addr) (fd : FuncData) (ps : List Str), FnOk P w K mg base (L2.CX P w) k f fd ps sp ∧ mg x = some (.ref f) ∧ PySem.W.keepIn K (.ref f) = true ∧ Binds K fd ps []
section
variable {X : Cx} {W : WX} {k j : Nat} {x : Str} {sp : Sp} {p pos : Pos} {e : Expr} {es : List Expr} {t : TA}
theorem pe_dx (c : Dx X.prog X.w X.K X.mg X.base k x sp) (tk : Takes X W) (hr : Room j X.A) (hk : k ≤ j) (hg : Gl X x) (ha : PA X (e :: es) t)
    (hdb : (x == ("__debug__" : Str)) = false := by decide) (he : starEach (e :: es) X.env = (false, eval e X.env) :: starEach es X.env := by rfl) (hpl : (backTo pos (starEach es X.env)).any (·.1) = false := by rfl) :
    PE X (.Call (.Name x p) (e :: es) [] pos) (tCallS sp (WE W) t) := by
  obtain ⟨f, fd, ps, F, hm, kp, b⟩ := c.ex
  exact pe_callS F (hr.mono hk) hg hm kp b (fun σ => passAt tk σ) ha hdb he hpl
/-- .. and does not, where it is called -/
theorem pe_dx0 (c : Dx X.prog X.w X.K X.mg X.base k x sp) (hr : Room j X.A) (hk : k ≤ j) (hg : Gl X x) (ha : PA X (e :: es) t)
    (hdb : (x == ("__debug__" : Str)) = false := by decide) (he : starEach (e :: es) X.env = (false, eval e X.env) :: starEach es X.env := by rfl) (hpl : (backTo pos (starEach es X.env)).any (·.1) = false := by rfl) :
    PE X (.Call (.Name x p) (e :: es) [] pos) (tCall sp [] E0 t) := by
  obtain ⟨f, fd, ps, F, hm, kp, b⟩ := c.ex
  exact pe_call F (hr.mono hk) hg hm kp b .nil passL ha hdb he hpl
end
theorem vals_noOwn {ds : List D} {i : Nat} {o : OB} : (ds.map AV.val)[i]? ≠ some (AV.own o) := by
  rw [List.getElem?_map]
  cases ds[i]? <;> simp
section
variable {K : PySem.W.Frag} {env e1 : Env} {f : List D → D → Prop} {g : List D → OB → Prop} {rs : List Res} {ds : List D} {d : D} {o : OB} {ta : TA} {E : XK}
end
section
variable {K : PySem.W.Frag} {env e1 : Env} {f : List D → Ret → Prop} {rs : List Res} {ds : List D} {d : D} {o : OB} {ta : TA} {W : WX} {C : Addr} {E : XK}
end
section
variable {P : Program} {w : World} {K : PySem.W.Frag} {mg : Str → Option Value} {base : Heap} {x qn : Str} {st : Stmt} {fa : Addr} {fd : FuncData} {N ps : List Str} {k : Nat}
theorem spG_len {Pr : List AV → Ret → List AV → Prop} {n : Nat} (hn : ∀ as r as', Pr as r as' → as.length = n) {vs : List V} {H : Hp} {Q : VK} {E : XK} (h : SpG K Pr vs H Q E) : vs.length = n := by
  obtain ⟨F, as, r, as', _, ar, p, _⟩ := h
  rw [ar.len, hn as r as' p]
theorem Fn.ofG {Pr : List AV → Ret → List AV → Prop} (F : Fun K x qn st fa fd) (S : FnScope N ps (defScope st)) (hn : ∀ as r as', Pr as r as' → as.length = ps.length)
    (body : ∀ (cdv : Value) (A : Around) (outer : List PySem.Env) (s : Shared) (H : Hp) (E : XK), Room k (A.deeper (PyProof.Rows.envOfC qn (defScope st) s.heap.objs.size fa cdv)) →
      ∃ t, PSs (cxOf CX0 P w K mg base N qn (defScope st) fa cdv A outer s H E).nox (defBody st) t ∧ ∀ as r as', Pr as r as' → ∃ pr : List Nat, (∀ (i : Nat) (o : OB), as[i]? = some (AV.own o) → i ∈ pr) ∧ Exec K pr (fun cls d _ H => E cls d H) t (as.map AV.ev ++ List.replicate (N.length - ps.length) .any)
      (fun e => r = .val .non ∧ Held as as' e) (fun _ => False) (fun _ => False) (fun q e => q = r ∧ Held as as' e)) : FnOk P w K mg base CX0 (k + 1) fa fd ps (SpG K Pr) :=
  F.ok S (fun vs H Q E h => spG_len hn h) (fun cdv A outer s H vs Q E hr h => by
    obtain ⟨t, h1, h2⟩ := body cdv A outer s H E hr
    have hpl : ps.length ≤ N.length := by have := congrArg List.length S.pre; rw [List.length_take] at this; omega
    exact ⟨t, h1, run_SpG h (fun as r as' p => ⟨hn as r as' p, hpl⟩) h2⟩)
theorem Dx.of {sp : Sp} (h : FnOk P w K mg base (L2.CX P w) k fa fd ps sp) (F : Fun K x qn st fa fd) (hm : mg x = some (.ref fa)) (b : Binds K fd ps []) : Dx P w K mg base k x sp := ⟨fa, fd, ps, h, hm, F.kp, b⟩
theorem Df.of {sp : Sp} (h : FnOk P w K mg base CX0 k fa fd ps sp) (F : Fun K x qn st fa fd) (hm : mg x = some (.ref fa)) (b : Binds K fd ps []) : Df P w K mg base k x sp := ⟨fa, fd, ps, h, hm, F.kp, b⟩
end
end DL

namespace DL
open PySem L2
/-! ### == of data, by a plain function -/
mutual
def pl : Nat → D → Bool
  | _, .non => true
  | _, .bl _ => true
  | _, .int _ => true
  | _, .str x => PyData.canLay0 (.str x)
  | n + 1, .tup l => plL n l
  | n + 1, .lst l => plL n l
  | _, _ => false
def plL : Nat → List D → Bool
  | _, [] => true
  | n, d :: r => pl n d && plL n r
end
/-! ### items -/
/-! ### comprehensions over one name, the slots left as they are -/
section
variable {K : PySem.W.Frag} {te : TE} {t : TT} {env e1 : Env} {wi : TI} {j : Nat}
end
/-! ### isinstance of data -/
end DL

namespace DL
open PySem L2
section
variable {K : PySem.W.Frag} {pr : List Nat} {W : WX} {s : TS} {env e1 : Env} {i j : Nat} {N B C : Env → Prop} {R : Ret → Env → Prop} {wi : TI} {ds : List D}
theorem small_of {n : Int} (c : Int) (h0 : 0 ≤ n) (h1 : n ≤ 70) (hc : c = 1 ∨ c = 2 ∨ c = 3 ∨ c = 8) : Builtin.Range.small 0 n c = true := by
  have k1 : ∀ m : Nat, m < 71 → Builtin.Range.small 0 (m : Int) 1 = true := by decide
  have k2 : ∀ m : Nat, m < 71 → Builtin.Range.small 0 (m : Int) 2 = true := by decide
  have k3 : ∀ m : Nat, m < 71 → Builtin.Range.small 0 (m : Int) 3 = true := by decide
  have k8 : ∀ m : Nat, m < 71 → Builtin.Range.small 0 (m : Int) 8 = true := by decide
  have e : n = ((n.toNat : Nat) : Int) := by omega
  rw [e]
  rcases hc with h | h | h | h <;> subst h
  · exact k1 _ (by omega)
  · exact k2 _ (by omega)
  · exact k3 _ (by omega)
  · exact k8 _ (by omega)
theorem rg_of {n c : Int} (h : Builtin.Range.small 0 n c = true) (hc : 0 < c ∧ c < 1000) : RgC 0 n c (if 0 < n then (n - 1) / c + 1 else 0).toNat := by
  refine ⟨by omega, by omega, h, ?_⟩
  unfold Builtin.Range.rangeSize
  rw [if_pos (show c > 0 from hc.1)]
  by_cases q : 0 < n
  · rw [if_pos q, if_pos q]
    have : 0 ≤ (n - 1) / c := Int.ediv_nonneg (by omega) (by omega)
    rw [show n - 0 - 1 = n - 1 by omega]
    omega
  · rw [if_neg q, if_neg q]; rfl
/-- range(0, n, 3) for n to 70 -/
theorem rg3 {n : Int} (h0 : 0 ≤ n) (h1 : n ≤ 70) : RgC 0 n 3 (if 0 < n then (n - 1) / 3 + 1 else 0).toNat := rg_of (small_of 3 h0 h1 (by omega)) (by omega)
theorem log2_lt {n : Int} {k : Nat} (h0 : 0 < n) (h : n < 2 ^ k) (hk : k < 9000) : 0 < n ∧ n.natAbs.log2 < 9000 := by
  refine ⟨h0, ?_⟩
  have e : ((2 ^ k : Nat) : Int) = 2 ^ k := by simp
  have a : n.natAbs < 2 ^ k := by omega
  have := (Nat.log2_lt (n := n.natAbs) (k := k) (by omega)).mpr a
  omega
end
end DL

/-! ### methods of data by what their operands came to -/
namespace L2
open PySem PySem.Spec PyProof.Rows
end L2
namespace DL
open PySem L2
section
variable {K : PySem.W.Frag} {te tb : TE} {ta : TA} {env e e1 e2 : Env} {r r' : Res} {rs : List Res} {d : D} {l : List D} {i j : Nat} {n : Int} {x y : Str}
end
end DL

namespace DL
open PySem L2
/-! ### more statements and operators -/
section
variable {K : PySem.W.Frag} {pr : List Nat} {W : WX} {te ta tb : TE} {env e1 e2 e : Env} {r r1 r2 : Res} {i j : Nat} {l m : List D} {N B C : Env → Prop} {R : Ret → Env → Prop} {n k : Int} {d d1 d2 : D} {c : Bool}
end
end DL
namespace DL
open PySem L2
end DL

/-! ### a tuple times any small number -/
namespace L2
open PySem PySem.Spec PyProof.Rows
theorem mulT_same (l : Addr) (items : Array Value) (n : Nat) (dd : Option Addr) (sl : Array (Option Value)) (x : Int) (u : Tok) (c0 : (decide (x < -(2 ^ 63)) || decide (x ≥ 2 ^ 63)) = false) (c1 : (items.isEmpty || x == 1) = true) :
    Meets (Builtin.«tuple.__mul__» ⟨[.ref l, .int x u], []⟩) (fun _ R s => s.heap.get? l = some { cls := .type "tuple", dict := dd, data := .seq items n, slots := sl } ∧ R (.ok (.ret (.ref l))) s) := .of_wp fun prog w A R s h => by
  obtain ⟨hp, g, d, tk, os⟩ := s
  obtain ⟨hl, h⟩ := h
  have g1 := AutoSeq1.idx_int
  wp_walk using wpAny_loadPart' hl
  repeat (first
    | (refine wpAny_ite_false (decide_eq_false (by rw [c0]; decide)) ?_; wp_walk using wpAny_loadPart' hl)
    | (refine wpAny_ite_true (decide_eq_true c1) ?_; wp_walk using wpAny_loadPart' hl))
  exact ⟨_, rfl, h⟩
theorem mulT_none (l : Addr) (items : Array Value) (n : Nat) (dd : Option Addr) (sl : Array (Option Value)) (x : Int) (u : Tok) (c0 : (decide (x < -(2 ^ 63)) || decide (x ≥ 2 ^ 63)) = false) (c1 : (items.isEmpty || x == 1) = false) (c2 : (decide (x ≤ 0) || items.isEmpty) = true) :
    Meets (Builtin.«tuple.__mul__» ⟨[.ref l, .int x u], []⟩) (fun _ R s => s.heap.get? l = some { cls := .type "tuple", dict := dd, data := .seq items n, slots := sl } ∧
      R (.ok (.ret (.ref s.heap.objs.size))) { s with heap := s.heap.push { cls := .type "tuple", data := .seq #[] }, toks := s.toks }) := .of_wp fun prog w A R s h => by
  obtain ⟨hp, g, d, tk, os⟩ := s
  obtain ⟨hl, h⟩ := h
  have g1 := AutoSeq1.idx_int
  wp_walk using wpAny_loadPart' hl
  repeat (first
    | (refine wpAny_ite_false (decide_eq_false (by rw [c0]; decide)) ?_; wp_walk using wpAny_loadPart' hl)
    | (refine wpAny_ite_false (decide_eq_false (by rw [c1]; decide)) ?_; wp_walk using wpAny_loadPart' hl)
    | (refine wpAny_ite_true (decide_eq_true c2) ?_; wp_walk using wpAny_loadPart' hl))
  exact ⟨_, rfl, h⟩
/-- a tuple times k, a new one: up to 4000000 items -/
theorem rep_new {X : Cx} {pins : List (Addr × Obj)} {s : Shared} {σ : L2.St} {H : Hp} {l : Addr} {k : Int} {t : Tok} {xs : List V} {Q : VK} (I : Inv X pins σ H s) (hT : SqT X.K H l xs) (hne : xs ≠ []) (h1 : 2 ≤ k) (h2 : k ≤ 4000) (hz : xs.length ≤ 1000)
    (q : ∀ p, H p = none → Q (.ref p) (upd H p (.tup (List.replicate k.toNat xs).flatten))) : wpAny (model X.prog X.w) X.A (binaryOp .Mult (.ref l) (.int k t)) (EP X pins σ Q) X.xe s := by
  obtain ⟨its, r, ⟨⟨_, dd, _, sl⟩, ho, rfl, n, rfl⟩, hs⟩ := I.tuple hT
  have le : its.length = xs.length := r.length.symm
  have size : its.toArray.size = xs.length := le
  have full : its.toArray.isEmpty = false := by
    cases its with
    | nil => exact absurd (List.eq_nil_of_length_eq_zero le.symm) hne
    | cons _ _ => rfl
  have most : k.toNat * xs.length ≤ 4000 * 1000 := Nat.mul_le_mul (by omega) hz
  have mosti : ((its.toArray.size : Nat) : Int) * k ≤ 4000000 := by
    have e : ((its.toArray.size : Nat) : Int) * k = ((k.toNat * xs.length : Nat) : Int) := by
      rw [size, Int.natCast_mul, Int.toNat_of_nonneg (by omega), Int.mul_comm]
    rw [e]; omega
  have c0 : (decide (k < -(2 ^ 63)) || decide (k ≥ 2 ^ 63)) = false := by simp; omega
  have c1 : (its.toArray.isEmpty || k == 1) = false := by rw [full]; simp; omega
  have c2 : (decide (k ≤ 0) || its.toArray.isEmpty) = false := by rw [full]; simp; omega
  have c4 : Builtin.Tuple.tupleTooMany (((its.toArray.size : Nat) : Int) * k) = false := by
    unfold Builtin.Tuple.tupleTooMany
    rw [sizeLine_eq]
    exact decide_eq_false (by omega)
  have fit : ∀ {α : Type} (ys : List α), ys.length = xs.length → (List.replicate k.toNat ys).flatten.length ≤ sizeLine := fun ys e => by
    rw [PyProof.Rows.lm_len_rep_flat, e, sizeLine_eq]; omega
  have mul := tuple_mulW l its.toArray n dd sl k t c0 c1 c2 (by omega) c4 (by rw [size_rep, List.size_toArray]; exact fit its le)
  rw [size_rep] at mul
  refine wpAny_binaryOp_repeat_ref (T := "tuple") (U := "int") (by decide) ⟨_, ho, rfl⟩ (fun s' => typeIs_int s' k t) noFill_tuple_mul F.fills_int_mul F.slot_int_rmul repeat_tuple F.slot_int_index.lookup
    (call_meets F.slot_int_rmul (typeIs_int s k t) F.entry_int_rmul (F.args_int_rmul_2 _ _) (int_rmul_tuple k t l its.toArray n dd sl)
      ⟨ho, rfl, ⟨_, ho, rfl⟩, call_meets F.slot_tuple_mul ⟨_, ho, rfl⟩ F.entry_tuple_mul (F.args_tuple_mul_2 _ _) mul ⟨ho, ?_⟩⟩)
  exact ⟨.ref s.heap.objs.size, _, I.laid (t' := s.toks) (o := .tup (List.replicate k.toNat xs).flatten) (fun b ob q => Heap.get?_push_of_some _ q) (Nat.le_refl _) ⟨fit xs rfl, _, r.rep k.toNat, IsTup.new _ _⟩, rfl, q _ (I.hok.fresh (Nat.le_refl _))⟩
/-- a tuple times any k to 100000: itself, or a new one -/
def rMulT (K : PySem.W.Frag) : R2 := fun x y H Q => ∃ l k xs, x = .ref l ∧ y = .int k ∧ SqT K H l xs ∧ k ≤ 4000 ∧ -1000 ≤ k ∧ xs.length ≤ 1000 ∧ (xs = [] → Q (.ref l) H) ∧ (k = 1 → Q (.ref l) H) ∧ (xs ≠ [] → k ≠ 1 → ∀ p, H p = none → Q (.ref p) (upd H p (.tup (List.replicate k.toNat xs).flatten)))
theorem op_mulT {X : Cx} : OpR X (binaryOp .Mult) (rMulT X.K) := by
  intro pins s σ H x y v u Q I rx ry h
  obtain ⟨l, k, xs, rfl, rfl, hT, h2, h1, hz, q0, q1, q2⟩ := h
  by_cases big : xs ≠ [] ∧ 2 ≤ k
  · cases rx
    obtain ⟨t, rfl⟩ := ry
    exact rep_new I hT big.1 big.2 h2 hz (q2 big.1 (by omega))
  · cases rx
    obtain ⟨t, rfl⟩ := ry
    obtain ⟨its, r, ⟨⟨cls, dd, data, sl⟩, ho, hc, n, hd⟩, hs⟩ := I.tuple hT
    simp only at hc hd
    subst hc hd
    have hle : its.length = xs.length := r.length.symm
    have c0 : (decide (k < -(2 ^ 63)) || decide (k ≥ 2 ^ 63)) = false := by
      rw [decide_eq_false (by omega), decide_eq_false (by omega)]; rfl
    by_cases one : xs = [] ∨ k = 1
    · have c1 : (its.toArray.isEmpty || k == 1) = true := by
        rcases one with e | e
        · have : its = [] := List.eq_nil_of_length_eq_zero (by rw [hle, e]; rfl)
          rw [this]; rfl
        · rw [e]; simp
      refine wpAny_binaryOp_repeat_ref (T := "tuple") (U := "int") (by decide) ⟨_, ho, rfl⟩ (fun s' => typeIs_int s' k t) noFill_tuple_mul F.fills_int_mul F.slot_int_rmul repeat_tuple F.slot_int_index.lookup
        (call_meets F.slot_int_rmul (typeIs_int s k t) F.entry_int_rmul (F.args_int_rmul_2 _ _) (int_rmul_tuple k t l its.toArray n dd sl)
          ⟨ho, rfl, ⟨_, ho, rfl⟩, call_meets F.slot_tuple_mul ⟨_, ho, rfl⟩ F.entry_tuple_mul (F.args_tuple_mul_2 _ _) (mulT_same l its.toArray n dd sl k t c0 c1) ⟨ho, ?_⟩⟩)
      refine ⟨.ref l, H, I, rfl, ?_⟩
      rcases one with e | e
      · exact q0 e
      · exact q1 e
    · have n1 : xs ≠ [] := fun e => one (.inl e)
      have n2 : k ≠ 1 := fun e => one (.inr e)
      have k0 : k ≤ 0 := by
        by_cases z : 2 ≤ k
        · exact absurd ⟨n1, z⟩ big
        · omega
      have hi : its.toArray.isEmpty = false := by
        cases its with
        | nil => exact absurd (List.eq_nil_of_length_eq_zero hle.symm) n1
        | cons a b => rfl
      have c1 : (its.toArray.isEmpty || k == 1) = false := by
        rw [hi, Bool.false_or]
        exact beq_eq_false_iff_ne.mpr n2
      have c2 : (decide (k ≤ 0) || its.toArray.isEmpty) = true := by rw [decide_eq_true k0]; rfl
      have e0 : k.toNat = 0 := by omega
      have q := q2 n1 n2
      rw [e0] at q
      refine wpAny_binaryOp_repeat_ref (T := "tuple") (U := "int") (by decide) ⟨_, ho, rfl⟩ (fun s' => typeIs_int s' k t) noFill_tuple_mul F.fills_int_mul F.slot_int_rmul repeat_tuple F.slot_int_index.lookup
        (call_meets F.slot_int_rmul (typeIs_int s k t) F.entry_int_rmul (F.args_int_rmul_2 _ _) (int_rmul_tuple k t l its.toArray n dd sl)
          ⟨ho, rfl, ⟨_, ho, rfl⟩, call_meets F.slot_tuple_mul ⟨_, ho, rfl⟩ F.entry_tuple_mul (F.args_tuple_mul_2 _ _) (mulT_none l its.toArray n dd sl k t c0 c1 c2) ⟨ho, ?_⟩⟩)
      refine ⟨.ref s.heap.objs.size, _, I.laid (t' := s.toks) (o := .tup []) (fun b ob q => Heap.get?_push_of_some _ q) (Nat.le_refl _) ?_, rfl, q _ (I.hok.fresh (Nat.le_refl _))⟩
      exact ⟨by decide, [], .nil, IsTup.new _ _⟩
end L2
namespace DL
open PySem L2
def rMulA (K : PySem.W.Frag) : R2 := fun x y H Q => rMulU x y H Q ∨ rMulT K x y H Q
theorem op_mulA {X : Cx} {K : PySem.W.Frag} (e : X.K = K := by rfl) : OpR X (binaryOp .Mult) (rMulA K) := by subst e; exact OpR.or op_mulU op_mulT
section
variable {K : PySem.W.Frag} {te ta tb : TE} {env e e1 e2 : Env} {r r1 r2 r' : Res} {i j : Int} {d d1 d2 : D} {l m : List D} {o o' : OB} {n : Nat}
/-- enumerate(xs) -/
def enumD (l : List D) : List D := (List.range l.length).map fun i => .tup [.int (i : Nat), l.getD i .non]
theorem enumD_len : (enumD l).length = l.length := by simp [enumD]
theorem enumD_get {i : Nat} (h : (enumD l)[i]? = some d) : ∃ x, l[i]? = some x ∧ d = .tup [.int (i : Nat), x] := by
  unfold enumD at h
  rw [List.getElem?_map] at h
  obtain ⟨k, hk, rfl⟩ := Option.map_eq_some_iff.mp h
  obtain ⟨h1, h2⟩ := List.getElem?_eq_some_iff.mp hk
  rw [List.length_range] at h1
  rw [List.getElem_range] at h2
  subst h2
  exact ⟨l[i], by simp [h1], by rw [List.getD_eq_getElem?_getD, List.getElem?_eq_getElem h1]; rfl⟩
def zipD (l m : List D) : List D := (l.zip m).map fun p => .tup [p.1, p.2]
end
/-! ### defs whose first argument is an object that they change -/
def PO (f : OB → List D → Ret → OB → Prop) : List AV → Ret → List AV → Prop := fun as r as' => ∃ o ds o', as = .own o :: ds.map AV.val ∧ as' = .own o' :: ds.map AV.val ∧ f o ds r o'
section
variable {K : PySem.W.Frag} {ta : TA} {env e1 : Env} {rs : List Res} {ds : List D} {d : D} {o o' ob : OB} {i : Nat} {f : OB → List D → Ret → OB → Prop} {E : XK}
end
section
variable {P : Program} {w : World} {K : PySem.W.Frag} {mg : Str → Option Value} {base : Heap} {x qn : Str} {st : Stmt} {fa : Addr} {fd : FuncData} {N ps : List Str} {k : Nat}
theorem Fn.ofO {f : OB → List D → Ret → OB → Prop} (F : Fun K x qn st fa fd) (S : FnScope N ps (defScope st)) (hn : ∀ o ds r o', f o ds r o' → ds.length + 1 = ps.length)
    (body : ∀ (cdv : Value) (A : Around) (outer : List PySem.Env) (s : Shared) (H : Hp) (E : XK), Room k (A.deeper (PyProof.Rows.envOfC qn (defScope st) s.heap.objs.size fa cdv)) →
      ∃ t, PSs (cxOf CX0 P w K mg base N qn (defScope st) fa cdv A outer s H E).nox (defBody st) t ∧ ∀ o ds r o', f o ds r o' → Exec K [0] (fun cls d _ H => E cls d H) t (EV.own o :: ds.map EV.val ++ List.replicate (N.length - ps.length) .any)
      (fun e => r = .val .non ∧ e[0]? = some (.own o')) (fun _ => False) (fun _ => False) (fun q e => q = r ∧ e[0]? = some (.own o'))) : FnOk P w K mg base CX0 (k + 1) fa fd ps (SpG K (PO f)) :=
  Fn.ofG F S (fun as r as' ⟨o, ds, o', h1, _, h4⟩ => by rw [h1, List.length_cons, List.length_map]; exact hn o ds r o' h4) fun cdv A outer s H E hr => by
    obtain ⟨t, h1, h2⟩ := body cdv A outer s H E hr
    refine ⟨t, h1, fun as r as' ⟨o, ds, o', e1, e2, hf⟩ => ⟨[0], fun i ob h => ?_, ?_⟩⟩
    · subst e1
      cases i with
      | zero => exact List.mem_cons_self
      | succ i => rw [List.getElem?_cons_succ] at h; exact absurd h vals_noOwn
    subst e1 e2
    have held : ∀ e : Env, e[0]? = some (.own o') → Held (.own o :: ds.map AV.val) (.own o' :: ds.map AV.val) e := fun e he i ob h => by
      cases i with
      | zero => exact ⟨o', rfl, he⟩
      | succ i => rw [List.getElem?_cons_succ] at h; exact absurd h vals_noOwn
    have em : (AV.own o :: ds.map AV.val).map AV.ev = EV.own o :: ds.map EV.val := by rw [List.map_cons, List.map_map]; rfl
    rw [em]
    exact x_mono (h2 o ds r o' hf) (fun e h => ⟨h.1, held e h.2⟩) (fun _ h => h) (fun _ h => h) fun q e h => ⟨h.1, held e h.2⟩
end
end DL

namespace DL
open PySem L2
/-! ### a comprehension whose part changes the object in the first slot -/
section
variable {K : PySem.W.Frag} {te : TE} {wi : TI} {env R : Env} {k : Nat} {ds : List D}
end
end DL

/-! ### xs.insert, a list times n, isinstance of several classes -/
namespace L2
open PySem
end L2
namespace DL
open PySem L2
section
variable {K : PySem.W.Frag} {pr : List Nat} {W : WX} {te ta tb : TE} {ts : TA} {env e1 e2 e : Env} {r : Res} {i : Nat} {l m : List D} {N B C : Env → Prop} {R : Ret → Env → Prop} {n j : Int} {d : D} {c : Bool}
end
end DL
namespace DL
open PySem L2
theorem ixN_nat {n i : Nat} (h : i < n) : ixN n (i : Int) = some i := by
  unfold ixN
  rw [if_pos (by omega), if_pos (by omega)]; rfl
end DL
namespace DL
open PySem L2
end DL

/-! ### len(set(xs)), xs.pop(i), xs.remove(x), xs[::-1], objects lent to a call -/
namespace L2
open PySem PySem.Spec PyProof.Rows
/-- how many unlike ones -/
def unlike (ns : List Int) : Nat := (PyProof.Rows.firstMet (fun i => ns.getD i 0) ns.length).length
end L2
namespace DL
open PySem L2
section
variable {K : PySem.W.Frag} {pr : List Nat} {W : WX} {te ta tb : TE} {ts : TA} {env e1 e2 e : Env} {r : Res} {i : Nat} {l m : List D} {N B C : Env → Prop} {R : Ret → Env → Prop} {n j : Int} {d : D} {c : Bool} {ns : List Int} {o : OB} {ds : List D} {rs : List Res}
theorem RepL.eraseIdx {F : Hp} : ∀ {vs : List V} {ds : List D} (n : Nat), RepL K F vs ds → RepL K F (vs.eraseIdx n) (ds.eraseIdx n)
  | _, _, _, .nil => .nil
  | _, _, 0, .cons _ r => r
  | _, _, n + 1, .cons q r => .cons q (RepL.eraseIdx n r)
/-- what each argument reads -/
inductive Rds (env : Env) : List Res → List D → Prop
  | nil : Rds env [] []
  | cons {r : Res} {d : D} {rs : List Res} {ds : List D} : Rd env r d → Rds env rs ds → Rds env (r :: rs) (d :: ds)
theorem Rds.rep {b : Bs} {F : Hp} {oa : Nat → Addr} {σ : L2.St} {H : Hp} (S : Sig K b F oa σ H env) : ∀ {vs : List V} {rs : List Res} {ds : List D}, RRs K F oa vs rs → Rds env rs ds → vs.length = ds.length ∧ ∀ (i : Nat) (d : D), ds[i]? = some d → ∃ v, vs[i]? = some v ∧ Rep K H v d
  | [], _, _, h, .nil => ⟨rfl, fun i d hi => by simp at hi⟩
  | _ :: _, _, _, h, .nil => h.elim
  | [], _, _, h, .cons _ _ => h.elim
  | v :: vs, _, _, h, .cons q t => by
    obtain ⟨h1, h2⟩ := Rds.rep S h.2 t
    refine ⟨by rw [List.length_cons, List.length_cons, h1], fun i d hi => ?_⟩
    cases i with
    | zero => simp at hi; subst hi; exact ⟨v, rfl, q.rep S h.1⟩
    | succ i => simp at hi; exact h2 i d hi
end
end DL

/-! ### xs[k] += n; in, of data of any depth; more that raises -/
namespace L2
open PySem PySem.Spec PyProof.Rows
end L2
namespace DL
open PySem L2
section
variable {X : Cx} {k j : Nat} {x : Str} {sp : Sp} {p pos : Pos}
end
theorem room65 {k : Nat} {A : Around} (r : Room k A) : A.units + 65 < cLine := by have := r.un; omega
section
variable {K : PySem.W.Frag} {pr : List Nat} {W : WX} {te ta tb to : TE} {ts : TA} {env e1 e2 e : Env} {r r1 r2 : Res} {i : Nat} {l m : List D} {N B C : Env → Prop} {R : Ret → Env → Prop} {n j k0 : Int} {d : D} {c : Bool} {X : Addr} {t u : TT}
/-! raising in parts -/
end
end DL

/-! ### instances of own classes: made, read, written -/
namespace DL
open PySem L2
section
variable {K : PySem.W.Frag} {F : Hp}
end
section
variable {K : PySem.W.Frag} {pr : List Nat} {W : WX} {te ta tv : TE} {ts : TA} {env e1 e2 e : Env} {r : Res} {rs : List Res} {i : Nat} {N B C : Env → Prop} {R : Ret → Env → Prop} {d : D} {ds : List D} {Cc : Addr} {fs : List (Str × D)} {f : Str} {o : OB}
end
/-- a class whose instances are made by a call of its name -/
structure Mf (P : Program) (w : World) (K : PySem.W.Frag) (mg : Str → Option Value) (base : Heap) (k : Nat) (x : Str) (C : Addr) (sp : Sp) : Prop where
  ex : ∃ (f : Addr) (fd : FuncData) (ps : List Str), Mk K C f ∧ FnOk P w K mg base CX0 k f fd ps sp ∧ mg x = some (.ref C) ∧ Binds K fd ps []
section
variable {X : Cx} {k j : Nat} {x : Str} {C : Addr} {sp : Sp} {p pos : Pos} {e : Expr} {es : List Expr} {t : TA}
end
theorem Mf.of {P : Program} {w : World} {K : PySem.W.Frag} {mg : Str → Option Value} {base : Heap} {k : Nat} {x : Str} {C fa : Addr} {fd : FuncData} {ps : List Str} {sp : Sp} (M : Mk K C fa) (h : FnOk P w K mg base CX0 k fa fd ps sp) (hm : mg x = some (.ref C)) (b : Binds K fd ps []) : Mf P w K mg base k x C sp := ⟨fa, fd, ps, M, h, hm, b⟩
end DL
namespace DL
open PySem L2
/-! ### try: .. except C: .. -/
def tTryO (K : PySem.W.Frag) (c : Value) (ts : TS) (tb : WX → TS) : TS := fun D σ H => tb (wOnly K c (fun _ _ _ => ts) (fun _ _ _ _ => False) D) D σ H
section
variable {K : PySem.W.Frag} {pr : List Nat} {W : WX} {env : Env} {N B C M : Env → Prop} {R : Ret → Env → Prop} {c : Value} {tb : WX → TS} {ts : TS}
end
end DL
namespace L2
open PySem PySem.Spec PyProof.Rows
section
variable {prog : Program} {w : World} {A : Around} {E : Value → Shared → Prop} {s : Shared}
end
end L2
namespace DL
open PySem L2
section
variable {K : PySem.W.Frag} {pr : List Nat} {W : WX} {te : TE} {env e1 : Env} {i : Nat} {l m : List D} {N B C : Env → Prop} {R : Ret → Env → Prop}
end
end DL

/-! ### repr of tuples, where nothing is under way: in the law's own def, called from the top -/
namespace L2
open PySem PySem.Spec PyProof.Rows
/-- what a def promises where it is called from the top -/
structure RunC (P : Program) (w : World) (K : PySem.W.Frag) (mg : Str → Option Value) (base : Heap) (CX : CXT) (f : Addr) (fd : FuncData) (ps : List Str) (sp : Sp) : Prop where
  run : ∀ (outer : List Env) (s : Shared) (H : Hp) (args : Args) (us : List Value) (vs : List V) (Q : VK) (E : XK), Env0 P w K mg base callerA outer s H → BindsTo s fd args (ps.zip us) → Vals vs us → sp vs H Q E →
    codeAny (model P w) callerA (.call (.ref f) args) (CR CX outer P w H s Q E) s
theorem RunC.imp {P : Program} {w : World} {K : PySem.W.Frag} {mg : Str → Option Value} {base : Heap} {CX : CXT} {f : Addr} {fd : FuncData} {ps : List Str} {sp sp' : Sp} (R : RunC P w K mg base CX f fd ps sp) (h : ∀ vs H Q E, sp' vs H Q E → sp vs H Q E) : RunC P w K mg base CX f fd ps sp' :=
  ⟨fun outer s H args us vs Q E e b r q => R.run outer s H args us vs Q E e b r (h _ _ _ _ q)⟩
/-- the law's call from the top, by such a promise -/
theorem top_call {P : Program} {w : World} {K : PySem.W.Frag} {mg mb : Str → Option Value} {CX : CXT} {fa a : Addr} {fd : FuncData} {x : Str} {sp : Sp} {s₁ : Shared} {vs : List Value} {ns : List Int}
    (inK : K.In s₁.heap) (nsG : s₁.heap.Ns mainGlobals mg) (nsB : s₁.heap.Ns builtinsNs mb) (boot : ∀ y : Str, y ≠ "__name__" → mb y = bootBuiltins y) (noLim : s₁.heap.NoLimit) (noGen : s₁.gens = #[])
    (at_a : s₁.heap.get? a = some { cls := .type "list", data := .seq vs.toArray }) (hInts : IntsAre vs ns) (few : ns.length ≤ sizeLine)
    (F : ∀ base : Heap, K.In base → base.Ns mainGlobals mg → RunC P w K mg base CX fa fd [x] sp) (hbind : ∀ (s : Shared) (u : Value), BindsTo s fd ⟨[u], []⟩ [(x, u)])
    (hsp : ∀ H : Hp, Only H → SqL K H a (ns.map V.int) → sp [.ref a] H (fun v _ => v = .bl true) fun _ _ _ => False)
    (hCX : ∀ H e s', CX [] H s₁ (fun _ _ _ => False) e s' → False) :
    codeAny (model P w) callerA (.call (.ref fa) ⟨[.ref a], []⟩) (fun r s' => r = .ok (.ret (.bool true)) ∧ OldK s₁.heap s'.heap ∧ s'.os = s₁.os ∧ AllBare s'.gens) s₁ := by
  have rv := vals_ints hInts
  have same : vs.length = ns.length := by rw [← rv.length, List.length_map]
  obtain ⟨fz, hfz⟩ : ∃ fz : HO, fz = .frz { cls := .type "list", data := .seq vs.toArray } (.lst (ns.map V.int)) := ⟨_, rfl⟩
  obtain ⟨H, only, has⟩ : ∃ H : Hp, (∀ b u, H b = some u → b = a ∧ u = fz ∧ K.lookup a = none) ∧ (K.lookup a = none → H a = some fz) := by
    cases hk : K.lookup a with
    | some o => exact ⟨fun _ => none, fun b u e => (by cases e), fun e => (by cases e)⟩
    | none =>
      refine ⟨fun b => if b = a then some fz else none, fun b u e => ?_, fun _ => if_pos rfl⟩
      have e : (if b = a then some fz else none) = some u := e
      by_cases z : b = a
      · rw [if_pos z] at e
        cases e
        exact ⟨z, rfl, rfl⟩
      · rw [if_neg z] at e
        cases e
  have free : ∀ b, b ≠ a ∨ K.lookup b ≠ none → H b = none := fun b hb => by
    cases q : H b with
    | none => rfl
    | some u =>
      obtain ⟨z1, z2, z3⟩ := only b u q
      rcases hb with hb | hb
      · exact absurd z1 hb
      · rw [z1] at hb
        exact absurd z3 hb
  have nsH : ∀ (b : Addr) (m : Str → Option Value), s₁.heap.Ns b m → (hidT s₁.heap H).Ns b m := fun b m ⟨o, es, ep, e, dt, rest⟩ => ⟨o, es, ep, hidT_get e (free b (.inl fun z => by
    rw [z, at_a] at e
    cases e
    cases (show Data.seq vs.toArray _ = Data.dict es ep from dt))), dt, rest⟩
  have inH : K.In (hidT s₁.heap H) := fun b o e => hidT_get (inK b o e) (free b (.inr (by rw [e]; simp)))
  have okH : HOk P w H s₁.heap := fun b u e => by
    obtain ⟨z1, z2, _⟩ := only b u e
    subst z1
    rw [z2, hfz]
    exact ⟨at_a, by rw [List.length_map]; exact few, vs, _, rv, at_a⟩
  have modH : Mod K mg (hidT s₁.heap H) := ⟨inH, nsH _ _ nsG, ⟨mb, nsH _ _ nsB, boot⟩, (match noLim with | ⟨mc, l1, l2⟩ => ⟨mc, nsH _ _ l1, l2⟩)⟩
  have env0 : Env0 P w K mg (hidT s₁.heap H) callerA [] s₁ H := by
    refine ⟨rfl, modH, fun b o e => of_hidT e, Nat.le_of_eq (hidT_size _ _), trivial, fun b hb => ?_, okH, .of_eq noGen⟩
    cases (show b ∈ ([] : List Addr) from hb)
  have onlyH : Only H := fun b => by
    cases q : H b with
    | none => exact .inl rfl
    | some u => exact .inr ⟨_, _, by rw [(only b u q).2.1, hfz]⟩
  have sqH : SqL K H a (ns.map V.int) := by
    cases hk : K.lookup a with
    | none => exact .inl (.inr ⟨_, by rw [has hk, hfz]⟩)
    | some o =>
      have e := inK a o hk
      rw [at_a] at e
      cases e
      exact .inr ⟨_, vs.toArray, _, hk, rfl, rfl, rfl, by rw [List.size_toArray, same]; exact few, by simpa using rv⟩
  refine codeAny_mono ((F _ inH (nsH _ _ nsG)).run [] s₁ H ⟨[.ref a], []⟩ [.ref a] [.ref a] _ _ env0 (hbind s₁ (.ref a)) (.cons rfl .nil) (hsp H onlyH sqH)) fun r s' z => ?_
  match r, z with
  | .error e, z => exact (hCX H e s' z).elim
  | .ok .next, z => exact False.elim z
  | .ok .brk, z => exact False.elim z
  | .ok .cont, z => exact False.elim z
  | .ok (.ret u), z =>
    obtain ⟨v, H', z1, z2, z3, z4, z5, z6⟩ := z
    cases (show v = .bl true from z6)
    cases (show u = Value.bool true from z5)
    refine ⟨rfl, OldK.of_keep fun b o e => ?_, z1, z2⟩
    cases q : H b with
    | none => exact z3.keep b o e q (fun y => (by cases (show b ∈ ([] : List Addr) from y))) (by simp)
    | some u =>
      have hu : H b = some (.frz { cls := .type "list", data := .seq vs.toArray } (.lst (ns.map V.int))) := by rw [q, (only b u q).2.1, hfz]
      obtain ⟨y1, _⟩ := okH b _ hu
      obtain ⟨y2, _⟩ := z4 b _ (z3.frzs b _ _ hu)
      rw [e] at y1
      cases y1
      exact y2
end L2

namespace DL
open PySem L2
/-! ### what repr shows of data -/
section
variable {K : PySem.W.Frag} {e : Env} {r : Res} {l : List D}
end
section
variable {P : Program} {w : World} {K : PySem.W.Frag} {mg : Str → Option Value} {base : Heap} {x qn : Str} {st : Stmt} {fa : Addr} {fd : FuncData} {N ps : List Str} {k : Nat}
end
end DL

/-! ### methods of own classes that only read; isinstance of an instance -/
namespace DL
open PySem L2
/-- a method -/
structure Mt (P : Program) (w : World) (K : PySem.W.Frag) (mg : Str → Option Value) (base : Heap) (k : Nat) (C : Addr) (m : Str) (sp : Sp) : Prop where
  ex : ∃ (f : Addr) (fd : FuncData) (ps : List Str), Meth K C m f ∧ FnOk P w K mg base CX0 k f fd ps sp ∧ Binds K fd ps []
theorem Mt.of {P : Program} {w : World} {K : PySem.W.Frag} {mg : Str → Option Value} {base : Heap} {k : Nat} {m : Str} {C fa : Addr} {fd : FuncData} {ps : List Str} {sp : Sp} (M : Meth K C m fa) (h : FnOk P w K mg base CX0 k fa fd ps sp) (b : Binds K fd ps []) : Mt P w K mg base k C m sp := ⟨fa, fd, ps, M, h, b⟩
section
variable {X : Cx} {k j : Nat} {m : Str} {C : Addr} {sp : Sp} {apos pos : Pos} {o e : Expr} {es : List Expr} {t : TA} {ta : TE}
end
section
variable {K : PySem.W.Frag} {env e e1 e2 : Env} {f : List D → D → Prop} {rs : List Res} {ds : List D} {d : D} {ta : TE} {ts : TA} {E : XK} {Cc : Addr} {m : Str} {fs : List (Str × D)}
/-- what isinstance asks of an own class -/
structure InC (K : PySem.W.Frag) (C : Addr) : Prop where
  cl : Cls K C
  ha : PySem.W.findIn K (.ref C) "__class__" = some (some (.builtin "object.__class__"))
  hn : PySem.W.specialIn K (.builtin "object.__class__") "__get__" = some (some (.builtin "getset_descriptor.__get__"))
  ht : PySem.W.takesIn K (.builtin "object.__class__") = some true
  hm : PySem.W.mroIn K C (.type "object") = some true
end
end DL
/-! ### repr of tuples, ints and texts, at the top -/
namespace DL
open PySem L2
section
variable {K : PySem.W.Frag} {e : Env} {r : Res} {l : List D} {i : Int} {x : Str}
end
end DL

/-! ### instances made by an __init__ that may raise -/
namespace L2
open PySem PySem.Spec PyProof.Rows
section
variable {X : Cx} {CX : CXT} {k : Nat} {f C : Addr} {fd : FuncData} {ps : List Str} {sp : Sp} {E : St → XK} {x : Str} {p pos : Pos} {e : Expr} {es : List Expr} {t : TA}
theorem run_makeS {pins : List (Addr × Obj)} {σ : St} {H : Hp} {s : Shared} {Q : VK} {us : List Value} {vs : List V} (M : Mk X.K C f) (F : FnOk X.prog X.w X.K X.mg X.base CX k f fd ps sp) (hr : Room (k + 1) X.A) (hb : Binds X.K fd ps [])
    (hx : PassesAt CX X σ (E σ)) (I : Inv X pins σ H s) (r : Vals vs us)
    (h : ∀ x dx, H x = none → H dx = none → dx ≠ x → sp (.ref x :: vs) (upd (upd H dx (.own x)) x (.ins C dx [])) (fun v H2 => v = .non ∧ Q (.ref x) H2) (E σ)) :
    wpAny (model X.prog X.w) X.A (call (.ref C) us) (EP X pins σ Q) X.xe s := by
  have hq := h (s.heap.objs.size + 1) s.heap.objs.size (I.hok.fresh (Nat.le_succ _)) (I.hok.fresh (Nat.le_refl _)) (Nat.ne_of_lt (Nat.lt_succ_self _))
  have I2 := Inv.made (C := C) I
  have r2 : Vals (V.ref (s.heap.objs.size + 1) :: vs) (Value.ref (s.heap.objs.size + 1) :: us) := .cons rfl r
  have hl : (Value.ref (s.heap.objs.size + 1) :: us).length = ps.length := by
    have e := r2.length
    rw [F.len _ _ _ _ hq] at e
    exact e.symm
  have b := hb _ (Value.ref (s.heap.objs.size + 1) :: us) I2.kIn (by rw [List.append_nil]; exact hl)
  rw [List.append_nil] at b
  refine wpAny_call (make_map (f := f) I.kIn M.makes M.init (beq_iff_eq.mp M.fn) (codeAny_mono (F.run _ X.stack _ _ ⟨Value.ref (s.heap.objs.size + 1) :: us, []⟩ (Value.ref (s.heap.objs.size + 1) :: us) _ _ (E σ) (hr.make C us [])
    (I2.env0.make C us []) b r2 hq) fun r s' hq' => ?_))
  cases r with
  | error e => exact hx pins _ _ e s' I2 hq'
  | ok fl =>
    cases fl with
    | ret u =>
      obtain ⟨v, H', I3, rv, ev, q3⟩ := I2.after hq'
      subst ev
      exact ⟨rv, ⟨V.ref (s.heap.objs.size + 1), H', I3, rfl, q3⟩⟩
    | next => exact False.elim hq'
    | brk => exact False.elim hq'
    | cont => exact False.elim hq'
def tMakeS (C : Addr) (sp : Sp) (E : St → XK) (t : TA) : TE := fun σ H Q => t σ H fun vs H1 => ∀ x dx, H1 x = none → H1 dx = none → dx ≠ x →
  sp (.ref x :: vs) (upd (upd H1 dx (.own x)) x (.ins C dx [])) (fun v H2 => v = .non ∧ Q (.ref x) H2) (E σ)
theorem pe_makeS (M : Mk X.K C f) (F : FnOk X.prog X.w X.K X.mg X.base CX k f fd ps sp) (hr : Room (k + 1) X.A) (hg : Gl X x) (hm : X.mg x = some (.ref C)) (hb : Binds X.K fd ps []) (hx : ∀ σ, PassesAt CX X σ (E σ))
    (ha : PA X (e :: es) t) (hdb : (x == ("__debug__" : Str)) = false := by decide) (he : starEach (e :: es) X.env = (false, eval e X.env) :: starEach es X.env := by rfl) (hpl : (backTo pos (starEach es X.env)).any (·.1) = false := by rfl) :
    PE X (.Call (.Name x p) (e :: es) [] pos) (tMakeS C sp E t) := by
  refine ⟨fun pins s σ H Q I h => ?_⟩
  refine wpAny_Call_Name_kw (ld_glob I hg hm ?_ hdb)
  refine PySem.W.callWith_K (h₀ := X.base) I.ok.mod.kin M.kp (thn (ha.run pos pins s σ H _ I h) fun us s1 ⟨vs, H1, I1, r, q⟩ => ⟨I1.kIn, ?_⟩) he hpl
  exact run_makeS M F hr hb (hx σ) I1 r q
end
end L2
namespace DL
open PySem L2
structure Mx (P : Program) (w : World) (K : PySem.W.Frag) (mg : Str → Option Value) (base : Heap) (k : Nat) (x : Str) (C : Addr) (sp : Sp) : Prop where
  ex : ∃ (f : Addr) (fd : FuncData) (ps : List Str), Mk K C f ∧ FnOk P w K mg base (L2.CX P w) k f fd ps sp ∧ mg x = some (.ref C) ∧ Binds K fd ps []
theorem Mx.of {P : Program} {w : World} {K : PySem.W.Frag} {mg : Str → Option Value} {base : Heap} {k : Nat} {x : Str} {C fa : Addr} {fd : FuncData} {ps : List Str} {sp : Sp} (M : Mk K C fa) (h : FnOk P w K mg base (L2.CX P w) k fa fd ps sp) (hm : mg x = some (.ref C)) (b : Binds K fd ps []) : Mx P w K mg base k x C sp := ⟨fa, fd, ps, M, h, hm, b⟩
section
variable {X : Cx} {W : WX} {k j : Nat} {x : Str} {C : Addr} {sp : Sp} {p pos : Pos} {e : Expr} {es : List Expr} {t : TA}
theorem pe_mx (c : Mx X.prog X.w X.K X.mg X.base k x C sp) (tk : Takes X W) (hr : Room j X.A) (hk : k + 1 ≤ j) (hg : Gl X x) (ha : PA X (e :: es) t)
    (hdb : (x == ("__debug__" : Str)) = false := by decide) (he : starEach (e :: es) X.env = (false, eval e X.env) :: starEach es X.env := by rfl) (hpl : (backTo pos (starEach es X.env)).any (·.1) = false := by rfl) :
    PE X (.Call (.Name x p) (e :: es) [] pos) (tMakeS C sp (WE W) t) := by
  obtain ⟨f, fd, ps, M, F, hm, b⟩ := c.ex
  exact pe_makeS M F (hr.mono hk) hg hm b (fun σ => passAt tk σ) ha hdb he hpl
/-- .. and does not raise, where it is made -/
theorem pe_mx0 (c : Mx X.prog X.w X.K X.mg X.base k x C sp) (hr : Room j X.A) (hk : k + 1 ≤ j) (hg : Gl X x) (ha : PA X (e :: es) t)
    (hdb : (x == ("__debug__" : Str)) = false := by decide) (he : starEach (e :: es) X.env = (false, eval e X.env) :: starEach es X.env := by rfl) (hpl : (backTo pos (starEach es X.env)).any (·.1) = false := by rfl) :
    PE X (.Call (.Name x p) (e :: es) [] pos) (tMake C sp [] E0 t) := by
  obtain ⟨f, fd, ps, M, F, hm, b⟩ := c.ex
  exact pe_make M F (hr.mono hk) hg hm b .nil passL ha hdb he hpl
end
section
variable {K : PySem.W.Frag} {pr : List Nat} {W : WX} {ts : TA} {env e1 : Env} {rs : List Res} {ds : List D} {Cc Ce : Addr} {fs : List (Str × D)} {b : Bs} {F1 H1 : Hp} {oa : Nat → Addr} {σ : L2.St} {vs : List V} {x dx : Addr}
end
section
variable {P : Program} {w : World} {K : PySem.W.Frag} {mg : Str → Option Value} {base : Heap} {x qn : Str} {st : Stmt} {fa : Addr} {fd : FuncData} {N ps : List Str} {k : Nat}
end
end DL

namespace DL
open PySem L2
/-! ### rows of bits, in plain Lean -/
def Bits (l : List Int) : Prop := ∀ b, b ∈ l → b = 0 ∨ b = 1
theorem Bits.nil : Bits [] := fun _ h => by cases h
theorem Bits.append {l m : List Int} (h1 : Bits l) (h2 : Bits m) : Bits (l ++ m) := fun b h => by
  rcases List.mem_append.mp h with q | q
  · exact h1 b q
  · exact h2 b q
/-! bytes in bits -/
def val (l : List Int) : Int := l.foldl (fun n b => n * 256 + b) 0
end DL
namespace DL
open PySem L2
theorem sIx_some {n d : Nat} {v : Int} (h : 0 ≤ v) : HT.sIx n d (some v) = min v.toNat n := by
  show (if v < 0 then (v + (n : Int)).toNat else min v.toNat n) = _
  rw [if_neg (by omega)]
end DL

/-! ### texts: one sign in a text, join, index; a written dict; reversed(range(n)) -/
namespace DL
open PySem L2
def rSign (neg : Bool) : R2 := fun x y H Q => ∃ (c : Nat) (z : Str), x = .str ⟨#[c]⟩ ∧ y = .str z ∧ Q (.bl (if neg then !decide (c ∈ z.cps.toList) else decide (c ∈ z.cps.toList))) H
def rJoin (K : PySem.W.Frag) : V → List V → Hp → VK → Prop := fun x xs H Q => ∃ a p, ∃ ys : List Str, x = .str a ∧ xs = [.ref p] ∧ (SqL K H p (ys.map V.str) ∨ SqT K H p (ys.map V.str)) ∧
    (ys.map (·.length)).sum + ys.length * a.length ≤ 16777216 ∧ Q (.str (Txt.join a ys)) H
def rIdxS : V → List V → Hp → VK → Prop := fun x xs H Q => ∃ (a b : Str) (k : Nat), x = .str a ∧ xs = [.str b] ∧ Txt.index0 a b = some k ∧ Q (.int (k : Nat)) H
section
variable {X : Cx} {o e : Expr} {to te : TE} {apos pos : Pos}
end
section
variable {K : PySem.W.Frag} {e env e1 e2 : Env} {to te : TE} {r : Res} {a b z : Str} {ys : List Str} {k : Nat} {c : Nat} {neg : Bool} {da : Addr} {w : World} {d : D} {n : Int}
end
end DL

/-! ## dicts whose keys are nested tuples of ints (and None): told by what is true of their one object -/
namespace L2
open PySem PySem.Spec PyProof.Rows
mutual
def hash0 : NestedKey → Int
  | .none => reduceHash 0xFCA86420
  | .num i => hashInt i
  | .text _ => 0
  | .tup ks => reduceHash (Builtin.Tuple.tupleHashOf (hashes0 ks))
def hashes0 : List NestedKey → List Int
  | [] => []
  | k :: ks => hash0 k :: hashes0 ks
end
mutual
/-- the value is the key -/
inductive NKey (H : Hp) : V → NestedKey → Prop
  | non : NKey H .non .none
  | int (i : Int) : NKey H (.int i) (.num i)
  | tup {a : Addr} {vs : List V} {ks : List NestedKey} : H a = some (.tup vs) → NKeys H vs ks → NKey H (.ref a) (.tup ks)
inductive NKeys (H : Hp) : List V → List NestedKey → Prop
  | nil : NKeys H [] []
  | cons {v : V} {k : NestedKey} {vs : List V} {ks : List NestedKey} : NKey H v k → NKeys H vs ks → NKeys H (v :: vs) (k :: ks)
end
section
variable {P : Program} {w : World} {H H' : Hp} {h : Heap}
mutual
theorem NKey.mono (e : ∀ a xs, H a = some (.tup xs) → H' a = some (.tup xs)) : ∀ {v : V} {k : NestedKey}, NKey H v k → NKey H' v k
  | _, _, .non => .non
  | _, _, .int i => .int i
  | _, _, .tup h r => .tup (e _ _ h) (NKeys.mono e r)
theorem NKeys.mono (e : ∀ a xs, H a = some (.tup xs) → H' a = some (.tup xs)) : ∀ {vs : List V} {ks : List NestedKey}, NKeys H vs ks → NKeys H' vs ks
  | _, _, .nil => .nil
  | _, _, .cons h r => .cons (NKey.mono e h) (NKeys.mono e r)
end
mutual
theorem NKey.hash : ∀ {v : V} {k : NestedKey}, NKey H v k → k.hash w = hash0 k
  | _, _, .non => by simp only [NestedKey.hash, hash0]
  | _, _, .int i => by simp only [NestedKey.hash, hash0]
  | _, _, .tup h r => by simp only [NestedKey.hash, hash0]; rw [NKeys.hash r]
theorem NKeys.hash : ∀ {vs : List V} {ks : List NestedKey}, NKeys H vs ks → NestedKey.hashes w ks = hashes0 ks
  | _, _, .nil => by simp only [NestedKey.hashes, hashes0]
  | _, _, .cons h r => by simp only [NestedKey.hashes, hashes0]; rw [NKey.hash h, NKeys.hash r]
end
mutual
theorem NKey.is (ok : HOk P w H h) : ∀ {v : V} {k : NestedKey} {u : Value}, NKey H v k → RelV v u → NestedIs h k u
  | _, _, _, .non, r => by cases r; exact .none
  | _, _, _, .int i, r => by obtain ⟨t, rfl⟩ := r; exact .int i t
  | _, _, _, .tup (vs := vs) e q, r => by
    cases r
    obtain ⟨_, its, rv, o, ho, hc, n, hd⟩ := (show ObjOk P w H h _ (.tup vs) from ok _ _ e)
    exact .tup ho hc hd (by simpa using NKeys.is ok q rv)
theorem NKeys.is (ok : HOk P w H h) : ∀ {vs : List V} {ks : List NestedKey} {us : List Value}, NKeys H vs ks → Vals vs us → NestedAll h ks us
  | _, _, _, .nil, r => by cases r; exact .nil
  | _, _, _, .cons h1 t, r => by
    cases r with
    | cons r1 r2 => exact .cons (NKey.is ok h1 r1) (NKeys.is ok t r2)
end
end
def ndE (x : NestedKey × Addr × Value) : DictEntry := ⟨hash0 x.1, .ref x.2.1, x.2.2⟩
def NdV : (NestedKey × Addr × V) → (NestedKey × Addr × Value) → Prop := fun p q => p.1 = q.1 ∧ p.2.1 = q.2.1 ∧ RelV p.2.2 q.2.2
/-- the dict's own object at a -/
def NdO (a : Addr) (kvs : List (NestedKey × Addr × V)) : HO := .ext fun h => ∃ xs : List (NestedKey × Addr × Value), Paired NdV kvs xs ∧ ∃ (o : Obj) (es : Array DictEntry) (ep : Nat), h.get? a = some o ∧ o.ExactDict ∧ o.data = .dict es ep ∧ es.toList = xs.map ndE
structure NdOk (H : Hp) (a : Addr) (kvs : List (NestedKey × Addr × V)) : Prop where
  sm : (a == sysModules) = false
  sz : kvs.length ≤ sizeLine
  nd : (kvs.map (·.1)).Nodup
  ks : ∀ e ∈ kvs, NKey H (.ref e.2.1) e.1 ∧ e.1.depth ≤ 8
theorem NdOk.mono {H H' : Hp} {a : Addr} {kvs : List (NestedKey × Addr × V)} (h : NdOk H a kvs) (e : ∀ a xs, H a = some (.tup xs) → H' a = some (.tup xs)) : NdOk H' a kvs := ⟨h.sm, h.sz, h.nd, fun x hx => ⟨(h.ks x hx).1.mono e, (h.ks x hx).2⟩⟩
/-- what it holds at a key -/
def ngetV (kvs : List (NestedKey × Addr × V)) (k : NestedKey) : Option V := (kvs.find? fun e => decide (e.1 = k)).map (·.2.2)
def nputV (kvs : List (NestedKey × Addr × V)) (k : NestedKey) (q : Addr) (v : V) : List (NestedKey × Addr × V) :=
  if (ngetV kvs k).isSome then kvs.map fun x => if x.1 = k then (x.1, x.2.1, v) else x else kvs ++ [(k, q, v)]
theorem exists_val : ∀ v : V, ∃ u, RelV v u
  | .non => ⟨_, rfl⟩
  | .bl _ => ⟨_, rfl⟩
  | .int i => ⟨.int i 0, 0, rfl⟩
  | .str x => ⟨.str x 0, 0, rfl⟩
  | .byt b => ⟨.bytes b 0, 0, rfl⟩
  | .flt b => ⟨.float b 0, 0, rfl⟩
  | .ref _ => ⟨_, rfl⟩
  | .ty _ => ⟨_, rfl⟩
theorem paired_mem {α β : Type} {R : α → β → Prop} : ∀ {l : List α} {m : List β}, Paired R l m → ∀ y ∈ m, ∃ x ∈ l, R x y
  | _, _, .nil, _, h => by cases h
  | _, _, .cons p t, y, h => by
    rcases List.mem_cons.mp h with q | q
    · subst q; exact ⟨_, List.mem_cons_self, p⟩
    · obtain ⟨e, h, z⟩ := paired_mem t y q; exact ⟨e, List.mem_cons_of_mem _ h, z⟩
theorem paired_fst : ∀ {l : List (NestedKey × Addr × V)} {m : List (NestedKey × Addr × Value)}, Paired NdV l m → m.map (·.1) = l.map (·.1)
  | _, _, .nil => rfl
  | _, _, .cons p t => by rw [List.map_cons, List.map_cons, paired_fst t, p.1]
theorem paired_map {k : NestedKey} {v : V} {r : Value} (rv : RelV v r) : ∀ {l : List (NestedKey × Addr × V)} {m : List (NestedKey × Addr × Value)}, Paired NdV l m → Paired NdV (l.map fun x => if x.1 = k then (x.1, x.2.1, v) else x) (m.map (putAt k r))
  | _, _, .nil => .nil
  | _, _, .cons (a := p) (b := q) h t => by
    rw [List.map_cons, List.map_cons]
    refine .cons ?_ (paired_map rv t)
    unfold putAt
    rw [h.1]
    by_cases c : q.1 = k
    · rw [if_pos c, if_pos c]; exact ⟨rfl, h.2.1, rv⟩
    · rw [if_neg c, if_neg c]; exact h
theorem paired_snoc {k : NestedKey} {q : Addr} {v : V} {r : Value} (rv : RelV v r) : ∀ {l : List (NestedKey × Addr × V)} {m : List (NestedKey × Addr × Value)}, Paired NdV l m → Paired NdV (l ++ [(k, q, v)]) (m ++ [(k, q, r)])
  | _, _, .nil => .cons ⟨rfl, rfl, rv⟩ .nil
  | _, _, .cons h t => .cons h (paired_snoc rv t)
theorem ndO_code (a : Addr) (kvs : List (NestedKey × Addr × V)) (c : Addr) (q : Str) : NdO a kvs ≠ LamX.CodeO c q := fun z => by
  unfold NdO LamX.CodeO at z
  injection z with z
  have pv : ∃ xs : List (NestedKey × Addr × Value), Paired NdV kvs xs := by
    clear z
    induction kvs with
    | nil => exact ⟨[], .nil⟩
    | cons e r ih =>
      obtain ⟨xs, hx⟩ := ih
      obtain ⟨u, hu⟩ := exists_val e.2.2
      exact ⟨(e.1, e.2.1, u) :: xs, .cons ⟨rfl, rfl, hu⟩ hx⟩
  obtain ⟨xs, hx⟩ := pv
  let ob : Obj := { cls := .type "dict", data := .dict (xs.map ndE).toArray }
  let hh : Heap := ⟨Array.replicate (a + c + 1) ob, {}⟩
  have ga : ∀ b, b ≤ a + c → hh.get? b = some ob := fun b hb => by
    have e : hh.objs[b]? = some ob := by
      show (Array.replicate (a + c + 1) ob)[b]? = some ob
      rw [Array.getElem?_replicate, if_pos (Nat.lt_succ_of_le hb)]
    unfold Heap.get?
    rw [e]
  have h1 := congrFun z hh
  have h2 : ∃ xs : List (NestedKey × Addr × Value), Paired NdV kvs xs ∧ ∃ (o : Obj) (es : Array DictEntry) (ep : Nat), hh.get? a = some o ∧ o.ExactDict ∧ o.data = .dict es ep ∧ es.toList = xs.map ndE :=
    ⟨xs, hx, ob, (xs.map ndE).toArray, 0, ga a (Nat.le_add_right a c), ⟨rfl, rfl, rfl⟩, rfl, by simp⟩
  rw [h1] at h2
  obtain ⟨oc, vs, t, e1, e2, _⟩ := h2
  rw [ga c (Nat.le_add_left c a)] at e1
  cases e1
  cases e2
section
variable {X : Cx} {pins : List (Addr × Obj)} {σ : St} {H : Hp} {s : Shared} {a : Addr} {y v d : V} {u r : Value} {A : Around} {E : Value → Shared → Prop} {kvs : List (NestedKey × Addr × V)} {k : NestedKey}
/-- the dict stands at a -/
def NdAt (H : Hp) (a : Addr) (kvs : List (NestedKey × Addr × V)) : Prop := H a = some (NdO a kvs) ∧ NdOk H a kvs
theorem nd_of (I : Inv X pins σ H s) (n : NdAt H a kvs) : ∃ xs, Paired NdV kvs xs ∧ s.heap.DictOfH (nestedKind X.prog X.w) a xs := by
  obtain ⟨e, ok⟩ := n
  obtain ⟨⟨xs, px, o, es, ep, h1, h2, h3, h4⟩, _⟩ := (show ObjOk X.prog X.w H s.heap a (NdO a kvs) from I.hok a _ e)
  have ke := paired_mem px
  refine ⟨xs, px, o, es, ep, h1, h2, h3, ?_, fun x hx => ?_, ?_⟩
  · rw [h4]
    refine List.map_congr_left fun x hx => ?_
    obtain ⟨e, he, z1, z2, z3⟩ := ke x hx
    have q := (ok.ks e he).1.hash (w := X.w)
    rw [z1] at q
    unfold ndE entryOfKey
    rw [← q]
    rfl
  · obtain ⟨e, he, z1, z2, z3⟩ := ke x hx
    obtain ⟨q1, q2⟩ := ok.ks e he
    rw [z1] at q1 q2
    rw [z2] at q1
    exact ⟨q1.is I.hok rfl, q2⟩
  · rw [paired_fst px]; exact ok.nd
theorem nd_val {xs : List (NestedKey × Addr × Value)} (px : Paired NdV kvs xs) : RelO (ngetV kvs k) ((atKey xs k).map (·.2)) := by
  unfold ngetV atKey
  induction px with
  | nil => exact trivial
  | @cons p q ps qs h t ih =>
    rw [List.find?_cons, List.find?_cons, h.1]
    by_cases c : q.1 = k
    · rw [decide_eq_true c]; exact h.2.2
    · rw [decide_eq_false c]; exact ih
theorem nd_put {xs : List (NestedKey × Addr × Value)} {q : Addr} (px : Paired NdV kvs xs) (rv : RelV v r) : Paired NdV (nputV kvs k q v) (storedH xs k q r) := by
  unfold nputV storedH
  have e : (ngetV kvs k).isSome = (atKey xs k).isSome := by
    have := (nd_val (k := k) px).isSome_eq
    rw [Option.isSome_map] at this
    exact this
  rw [e]
  by_cases c : (atKey xs k).isSome = true
  · rw [if_pos c, if_pos c]; exact paired_map rv px
  · rw [if_neg c, if_neg c]; exact paired_snoc rv px
theorem ngetV_some (h : (ngetV kvs k).isSome = false) : k ∉ kvs.map (·.1) := by
  unfold ngetV at h
  rw [Option.isSome_map] at h
  intro hm
  obtain ⟨e, he, rfl⟩ := List.mem_map.mp hm
  cases q : kvs.find? fun x => decide (x.1 = e.1) with
  | none => exact absurd (List.find?_eq_none.mp q e he) (by simp)
  | some x => rw [q] at h; cases h
theorem nputV_ok {q : Addr} (ok : NdOk H a kvs) (hk : NKey H (.ref q) k) (hd : k.depth ≤ 8) (hl : kvs.length < sizeLine) : NdOk H a (nputV kvs k q v) := by
  unfold nputV
  cases c : (ngetV kvs k).isSome with
  | true =>
    rw [if_pos rfl]
    refine ⟨ok.sm, by rw [List.length_map]; exact ok.sz, ?_, fun e he => ?_⟩
    · rw [List.map_map]
      have : ((fun x : NestedKey × Addr × V => x.1) ∘ fun x => if x.1 = k then (x.1, x.2.1, v) else x) = fun x => x.1 := by
        funext x; simp only [Function.comp]; split <;> rfl
      rw [this]; exact ok.nd
    · obtain ⟨x, hx, rfl⟩ := List.mem_map.mp he
      split
      · exact ok.ks x hx
      · exact ok.ks x hx
  | false =>
    rw [if_neg (by simp)]
    refine ⟨ok.sm, by rw [List.length_append]; exact hl, ?_, fun e he => ?_⟩
    · rw [List.map_append, List.nodup_append]
      refine ⟨ok.nd, by simp, fun b hb c' hc e => ?_⟩
      simp at hc
      subst hc
      subst e
      exact ngetV_some c hb
    · rcases List.mem_append.mp he with h | h
      · exact ok.ks e h
      · rw [List.mem_singleton] at h; subst h; exact ⟨hk, hd⟩
theorem room_n (hu : X.A.units + 65 < cLine) : (nestedKind X.prog X.w).room X.A.in1 := by show X.A.units + 1 + 8 < cLine; omega
theorem nd_type (I : Inv X pins σ H s) (n : NdAt H a kvs) : s.TypeIs (.ref a) "dict" ∧ (∀ b, Value.ref a = .ref b → ∃ ob, s.heap.get? b = some ob ∧ ob.dict = none) := by
  obtain ⟨xs, _, dd⟩ := nd_of I n
  refine ⟨dd.typeIs, fun b q => ?_⟩
  cases q
  obtain ⟨ob, _, _, h1, h2, _⟩ := dd
  exact ⟨ob, h1, h2.2.1⟩
/-- the key at hand -/
def NK (H : Hp) (y : V) (k : NestedKey) : Prop := ∃ b, y = .ref b ∧ NKey H y k ∧ k.depth ≤ 8
theorem NK.is (I : Inv X pins σ H s) (h : NK H y k) (ry : RelV y u) : ∃ b, u = .ref b ∧ y = .ref b ∧ (nestedKind X.prog X.w).is s.heap k b := by
  obtain ⟨b, rfl, h1, h2⟩ := h
  obtain rfl : u = Value.ref b := ry
  exact ⟨b, rfl, rfl, h1.is I.hok rfl, h2⟩
def rNIn (neg : Bool) : R2 := fun y x H Q => ∃ a kvs k, x = .ref a ∧ NdAt H a kvs ∧ NK H y k ∧ Q (.bl (if neg then !(ngetV kvs k).isSome else (ngetV kvs k).isSome)) H
theorem op_inN (hu : X.A.units + 65 < cLine) : OpR X (compareOp .In) (rNIn false) := by
  intro pins s σ H y x iv u Q I ry rx h
  obtain ⟨a, kvs, k, rfl, n, hk, q⟩ := h
  obtain rfl : u = Value.ref a := rx
  obtain ⟨b, rfl, rfl, is⟩ := hk.is I ry
  obtain ⟨xs, px, dd⟩ := nd_of I n
  refine wpAny_in_heap (room_n hu) is n.2.sm dd ?_
  have e := (nd_val (k := k) px).isSome_eq
  rw [Option.isSome_map] at e
  rw [← e]
  exact ⟨.bl _, H, I.tok _, rfl, q⟩
theorem op_notInN (hu : X.A.units + 65 < cLine) : OpR X (compareOp .NotIn) (rNIn true) := by
  intro pins s σ H y x iv u Q I ry rx h
  obtain ⟨a, kvs, k, rfl, n, hk, q⟩ := h
  obtain rfl : u = Value.ref a := rx
  obtain ⟨b, rfl, rfl, is⟩ := hk.is I ry
  obtain ⟨xs, px, dd⟩ := nd_of I n
  have e := (nd_val (k := k) px).isSome_eq
  rw [Option.isSome_map] at e
  refine notIn_keyed (kvs := pairsH xs) (room_n hu) is n.2.sm ⟨xs, dd, rfl⟩ ?_
  rw [valueAt_pairsH, Option.isSome_map, ← e]
  exact ⟨.bl _, H, I.tok _, rfl, q⟩
/-- d[y] -/
def rNGet : R2 := fun x y H Q => ∃ a kvs k v, x = .ref a ∧ NdAt H a kvs ∧ NK H y k ∧ ngetV kvs k = some v ∧ Q v H
theorem pe_nget {o i : Expr} {pos : Pos} {td ty : TE} (hu : X.A.units + 65 < cLine) (ho : PE X o td) (hi : PE X i ty) (hs : NoSl i) : PE X (.Subscript o i pos) (tOp rNGet td ty) := by
  refine ⟨fun pins s σ H Q I h => ?_⟩
  refine subD_of PySem.F.slot_dict_getitem.lookup hs (thn (ho.run pins s σ H _ I h) fun u s1 ⟨x, H1, I1, rx, q1⟩ => thn (hi.run pins s1 σ H1 _ I1 q1) fun iv s2 ⟨y, H2, I2, ry, a, kvs, k, v, ex, n, hk, hg, q2⟩ => ?_)
  subst ex
  obtain rfl : u = Value.ref a := rx
  obtain ⟨b, rfl, rfl, is⟩ := hk.is I2 ry
  obtain ⟨xs, px, dd⟩ := nd_of I2 n
  obtain ⟨w', hw, rw'⟩ := RelO.some_of (v := v) (o := (atKey xs k).map (·.2)) (by rw [← hg]; exact nd_val px)
  obtain ⟨p, hp, hp2⟩ := Option.map_eq_some_iff.mp hw
  refine ⟨dd.typeIs, wpAny_getItem_heap (room_n hu) is dd hp ?_⟩
  rw [hp2]
  exact ⟨v, H2, I2.tok _, rw', q2⟩
/-- d.get(y), d.get(y, z) -/
def tNGet1 (td ty : TE) : TE := fun σ H Q => td σ H fun x H1 => ∃ a kvs, x = .ref a ∧ NdAt H1 a kvs ∧ ty σ H1 fun y H2 => ∃ kvs k, NdAt H2 a kvs ∧ NK H2 y k ∧ Q ((ngetV kvs k).getD .non) H2
def tNGet2 (td ty tx : TE) : TE := fun σ H Q => td σ H fun x H1 => ∃ a kvs, x = .ref a ∧ NdAt H1 a kvs ∧ ty σ H1 fun y H2 => tx σ H2 fun z H3 => ∃ kvs k, NdAt H3 a kvs ∧ NK H3 y k ∧ Q ((ngetV kvs k).getD z) H3
theorem pe_nget1 {o e : Expr} {apos cpos : Pos} {td ty : TE} (hu : X.A.units + 65 < cLine) (ho : PE X o td) (he : PE X e ty) (m : M1 X o "get" apos e cpos) : PE X (.Call (.Attribute o "get" apos) [e] [] cpos) (tNGet1 td ty) := by
  refine ⟨fun pins s σ H Q I h => ?_⟩
  refine wpAny_Call_method m.base m.few m.line PySem.F.plainAttrs_dict PySem.F.slot_dict_get PySem.F.type_dict_get (thn (ho.run pins s σ H _ I h) fun u s1 ⟨x, H1, I1, rx, a, kvs0, ex, d, q1⟩ => ?_)
  subst ex
  obtain rfl : u = Value.ref a := rx
  obtain ⟨t1, t2⟩ := nd_type I1 d
  refine ⟨t1, t2, ?_⟩
  rw [m.trees]
  refine Calls.callWith_builtin rfl (Calls.evalArgs_plain (Calls.spliced_cons (thn (he.run pins s1 σ H1 _ I1 q1) fun iv s2 ⟨y, H2, I2, ry, kvs, k, n, hk, q2⟩ => Calls.spliced_nil ?_)))
  obtain ⟨b, rfl, rfl, is⟩ := hk.is I2 ry
  obtain ⟨xs, px, dd⟩ := nd_of I2 n
  refine call_meetsIn PySem.F.slot_dict_get dd.typeIs PySem.F.entry_dict_get (PySem.F.args_dict_get_2 _ _) (meetsH_dict_get (nestedKind X.prog X.w) a b n.2.sm) ⟨room_n hu, k, xs, is, dd, ⟨_, H2, I2.tok _, (nd_val (k := k) px).getD (show RelV .non .none from rfl), q2⟩⟩
theorem pe_nget2 {o e f : Expr} {apos cpos : Pos} {td ty tx : TE} (hu : X.A.units + 65 < cLine) (ho : PE X o td) (he : PE X e ty) (hf : PE X f tx) (m : M2 X o "get" apos e f cpos) : PE X (.Call (.Attribute o "get" apos) [e, f] [] cpos) (tNGet2 td ty tx) := by
  refine ⟨fun pins s σ H Q I h => ?_⟩
  refine wpAny_Call_method m.base m.few m.line PySem.F.plainAttrs_dict PySem.F.slot_dict_get PySem.F.type_dict_get (thn (ho.run pins s σ H _ I h) fun u s1 ⟨x, H1, I1, rx, a, kvs0, ex, d, q1⟩ => ?_)
  subst ex
  obtain rfl : u = Value.ref a := rx
  obtain ⟨t1, t2⟩ := nd_type I1 d
  refine ⟨t1, t2, ?_⟩
  rw [m.trees]
  refine Calls.callWith_builtin rfl (Calls.evalArgs_plain (Calls.spliced_cons (thn (he.run pins s1 σ H1 _ I1 q1) fun iv s2 ⟨y, H2, I2, ry, q2⟩ =>
    Calls.spliced_cons (thn (hf.run pins s2 σ H2 _ I2 q2) fun fv s3 ⟨z, H3, I3, rz, kvs, k, n, hk, q3⟩ => Calls.spliced_nil ?_))))
  obtain ⟨b, rfl, rfl, is⟩ := hk.is I3 ry
  obtain ⟨xs, px, dd⟩ := nd_of I3 n
  refine call_meetsIn PySem.F.slot_dict_get dd.typeIs PySem.F.entry_dict_get (PySem.F.args_dict_get_3 _ _ _) (meetsH_dict_get_default (nestedKind X.prog X.w) a b n.2.sm fv) ⟨room_n hu, k, xs, is, dd, ⟨_, H3, I3.tok _, (nd_val (k := k) px).getD rz, q3⟩⟩
theorem ndO_ok {h : Heap} {P : Program} {w : World} {xs : List (NestedKey × Addr × Value)} (px : Paired NdV kvs xs) (dd : ∃ (o : Obj) (es : Array DictEntry) (ep : Nat), h.get? a = some o ∧ o.ExactDict ∧ o.data = .dict es ep ∧ es.toList = xs.map ndE) : ObjOk P w H h a (NdO a kvs) := by
  refine ⟨⟨xs, px, dd⟩, ?_, fun h1 h2 ⟨xs, p, o, es, ep, z1, z2, z3, z4⟩ k => ⟨xs, p, o, es, ep, k o z1, z2, z3, z4⟩⟩
  obtain ⟨o, _, _, e, _⟩ := dd
  exact ⟨o, e⟩
/-- d[y] = v -/
def sNPut (td ty tv : TE) : TS := fun D σ H => tv σ H fun v H1 => td σ H1 fun x H2 => ty σ H2 fun y H3 => ∃ a kvs k b, x = .ref a ∧ y = .ref b ∧ NdAt H3 a kvs ∧ NKey H3 y k ∧ k.depth ≤ 8 ∧ kvs.length < sizeLine ∧ D.nx σ (upd H3 a (NdO a (nputV kvs k b v)))
theorem ps_nput {o i value : Expr} {pos pos' : Pos} {td ty tv : TE} (hu : X.A.units + 65 < cLine) (ho : PE X o td) (hi : PE X i ty) (hv : PE X value tv) (hs : swapsWith value (some (.Subscript o i pos')) pos.line X.env = pure false) :
    PS X (.Assign [.Subscript o i pos'] value pos) (sNPut td ty tv) := by
  refine ⟨fun pins s σ H D I h => ?_⟩
  refine wpAny_Assign_Subscript (thn (hv.run pins s σ H _ I h) fun r s1 ⟨v, H1, I1, rv, q1⟩ => thn (ho.run pins s1 σ H1 _ I1 q1) fun u s2 ⟨x, H2, I2, rx, q2⟩ => thn (hi.run pins s2 σ H2 _ I2 q2) fun iv s3 ⟨y, H3, I3, ry, a, kvs, k, b, ex, ey, n, hk, hd, hl, q3⟩ => ?_) hs
  subst ex ey
  obtain rfl : u = Value.ref a := rx
  obtain rfl : iv = Value.ref b := ry
  obtain ⟨xs, px, dd⟩ := nd_of I3 n
  have hz : xs.length ≤ sizeLine := by rw [← Paired.length px]; omega
  refine wpAny_setItem_heap (knd := nestedKind X.prog X.w) (k := k) (hsz := hz) (room_n hu) ⟨hk.is I3.hok rfl, hd⟩ dd fun h' dd' hs => ?_
  obtain ⟨q, es, ep, hq, h2, h3, h4, his, h5⟩ := dd'
  have e4 : es.toList = (storedH xs k b r).map ndE := by
    rw [h4]
    refine List.map_congr_left fun x hx => ?_
    have pp := nd_put (k := k) (q := b) px rv
    have okp := nputV_ok (v := v) n.2 hk hd hl
    have ke := paired_mem pp x hx
    obtain ⟨e, he, z1, z2, z3⟩ := ke
    have q := (okp.ks e he).1.hash (w := X.w)
    rw [z1] at q
    unfold ndE entryOfKey
    rw [← q]
    rfl
  refine ⟨σ, _, d_write I3 (by rw [n.1]; exact True.intro) hs ⟨q, hq⟩ (ndO_ok (nd_put px rv) ⟨q, es, ep, hq, h2, h3, e4⟩), q3⟩
/-- {} -/
def tDNewN : TE := fun _ H Q => ∀ p, H p = none → (p == sysModules) = false → Q (.ref p) (upd H p (NdO p []))
theorem pe_dnewN {pos : Pos} : PE X (.Dict [] [] pos) tDNewN := ⟨fun pins s σ H Q I h =>
  wpAny_Dict_empty ⟨.ref s.heap.objs.size, _, I.laid (a := s.heap.objs.size) (o := NdO s.heap.objs.size []) (t' := s.toks) (fun _ _ q => Heap.get?_push_of_some _ q) (Nat.le_refl _) (ndO_ok .nil ⟨_, #[], 0, Heap.get?_push_size _ rfl, ⟨rfl, rfl, rfl⟩, rfl, rfl⟩), rfl, h _ (I.hok.fresh (Nat.le_refl _)) (beq_eq_false_iff_ne.mpr (Ne.symm (Nat.ne_of_lt I.big)))⟩⟩
end
end L2

/-! ## plain functions for the defs (no program in sight) -/
namespace SM
open PySem L2

/-- data; an object that may change is told by its place in a plain heap -/
inductive D where
  | non | bl (b : Bool) | int (i : Int) | str (x : Str) | ty (n : String)
  | tup (l : List D) | wt (l : List D) | scr (l : List D) | ref (i : Nat) | nm (x : String) | exc (C : String)
instance : Inhabited D := ⟨.non⟩
inductive O where
  | lst (l : List D)
  /-- t: its keys are tuples; lk: a loop walks it -/
  | dic (t lk : Bool) (kvs : List (D × D))
  | obj (C : String) (fs : List (String × D))
  /-- a dict whose keys are nested tuples -/
  | nd (l : List (NestedKey × D))
abbrev Hs := List O
abbrev Sl := List (Option D)
inductive RE (α : Type) where
  | ok (a : α) (A : Hs) | exc (C : String) (A : Hs) | stuck
def RE.bind {α β : Type} (r : RE α) (f : α → Hs → RE β) : RE β := match r with
  | .ok a A => f a A
  | .exc C A => .exc C A
  | .stuck => .stuck
/-- an exception has no road from here -/
def RE.noX {α : Type} : RE α → RE α
  | .ok a A => .ok a A
  | _ => .stuck
abbrev E := Sl → Hs → RE D
abbrev Tt := Sl → Hs → RE Bool
abbrev As := Sl → Hs → RE (List D)
abbrev Fn := List D → Hs → RE D
inductive RS where
  | nx (σ : Sl) (A : Hs) | bk (σ : Sl) (A : Hs) | ct (σ : Sl) (A : Hs) | rt (d : D) (A : Hs) | exc (C : String) (σ : Sl) (A : Hs) | stuck
abbrev S := Sl → Hs → RS
/-- a new object -/
def alloc (A : Hs) (o : O) : RE D := .ok (.ref A.length) (A ++ [o])

def eVar (i : Nat) : E := fun env A => match env[i]? with
  | some (some d) => .ok d A
  | _ => .stuck
def eC (d : D) : E := fun _ A => .ok d A
def eOp (o : D → D → Hs → RE D) (a b : E) : E := fun env A => (a env A).bind fun x A1 => (b env A1).bind fun y A2 => o x y A2
def eUn (o : D → Hs → RE D) (a : E) : E := fun env A => (a env A).bind fun x A1 => o x A1
def aNil : As := fun _ A => .ok [] A
def aCons (a : E) (as : As) : As := fun env A => (a env A).bind fun x A1 => (as env A1).bind fun xs A2 => .ok (x :: xs) A2
def eCB (f : List D → Hs → RE D) (as : As) : E := fun env A => (as env A).bind fun ds A1 => f ds A1
/-- a call where nothing that is raised has a road -/
def eCall0 (f : Fn) (as : As) : E := fun env A => (as env A).bind fun ds A1 => (f ds A1).noX
def eCall (f : Fn) (as : As) : E := fun env A => (as env A).bind fun ds A1 => f ds A1
def make (C : String) (f : Fn) (ds : List D) (A1 : Hs) : RE D := match f (.ref A1.length :: ds) (A1 ++ [.obj C []]) with
    | .ok .non A2 => .ok (.ref A1.length) A2
    | .exc X A2 => .exc X A2
    | _ => .stuck
def eMake0 (C : String) (f : Fn) (as : As) : E := fun env A => (as env A).bind fun ds A1 => (make C f ds A1).noX
def eMake (C : String) (f : Fn) (as : As) : E := fun env A => (as env A).bind fun ds A1 => make C f ds A1
/-- the class of an object, its fields -/
def objAt (A : Hs) : D → Option (String × List (String × D))
  | .ref i => match A[i]? with
    | some (.obj C fs) => some (C, fs)
    | _ => none
  | _ => none
/-- what holds of all -/
def AllC (P : String → Prop) : List String → Prop
  | [] => True
  | c :: r => P c ∧ AllC P r
theorem AllC.of {P : String → Prop} {c : String} : ∀ {l : List String}, AllC P l → c ∈ l → P c
  | _ :: r, h, q => by
    rcases List.mem_cons.mp q with z | z
    · rw [z]; exact h.1
    · exact AllC.of h.2 z
def methOf (m : String) (tbl : List (String × Fn)) (A : Hs) (x : D) : Option Fn := match objAt A x with
  | some (C, fs) => if (fs.lookup m).isSome then none else tbl.lookup C
  | none => none
def eMeth (m : String) (tbl : List (String × Fn)) (o : E) (as : As) : E := fun env A => (o env A).bind fun x A1 => match methOf m tbl A1 x with
  | some f => (as env A1).bind fun ds A2 => f (x :: ds) A2
  | none => .stuck
def eMeth0 (m : String) (tbl : List (String × Fn)) (o : E) (as : As) : E := fun env A => (o env A).bind fun x A1 => match methOf m tbl A1 x with
  | some f => (as env A1).bind fun ds A2 => (f (x :: ds) A2).noX
  | none => .stuck
/-- o.f, o of one of the classes cs -/
def getFld (cs : List String) (f : String) (A : Hs) (x : D) : Option D := match objAt A x with
  | some (C, fs) => if C ∈ cs then fs.lookup f else none
  | none => none
def eFld (cs : List String) (f : String) (o : E) : E := fun env A => (o env A).bind fun x A1 => match getFld cs f A1 x with
  | some d => .ok d A1
  | none => .stuck
def eAnd (a b : E) : E := fun env A => (a env A).bind fun x A1 => match x with
  | .bl true => b env A1
  | .bl false => .ok (.bl false) A1
  | _ => .stuck
def eOr (a b : E) : E := fun env A => (a env A).bind fun x A1 => match x with
  | .bl false => b env A1
  | .bl true => .ok (.bl true) A1
  | _ => .stuck
def eNot (a : E) : E := fun env A => (a env A).bind fun x A1 => match x with
  | .bl c => .ok (.bl (!c)) A1
  | _ => .stuck
/-- a < b < c -/
def eCh (o o' : D → D → Hs → RE D) (a b c : E) : E := fun env A => (a env A).bind fun x A1 => (b env A1).bind fun y A2 => (o x y A2).bind fun z A3 => match z with
  | .bl false => .ok (.bl false) A3
  | .bl true => (c env A3).bind fun w A4 => o' y w A4
  | _ => .stuck
def tOf (a : E) : Tt := fun env A => (a env A).bind fun x A1 => match x with
  | .bl c => .ok c A1
  | _ => .stuck
def tAn (a b : Tt) : Tt := fun env A => (a env A).bind fun c A1 => if c = true then b env A1 else .ok false A1
def tOo (a b : Tt) : Tt := fun env A => (a env A).bind fun c A1 => if c = true then .ok true A1 else b env A1
def tNo (a : Tt) : Tt := fun env A => (a env A).bind fun c A1 => .ok (!c) A1
def tYe : Tt := fun _ A => .ok true A
def eIf (t : Tt) (a b : E) : E := fun env A => (t env A).bind fun c A1 => if c = true then a env A1 else b env A1
def eTup (as : As) : E := fun env A => (as env A).bind fun ds A1 => if ds.length ≤ sizeLine then .ok (.tup ds) A1 else .stuck
def eLst (as : As) : E := fun env A => (as env A).bind fun ds A1 => if ds.length ≤ sizeLine then alloc A1 (.lst ds) else .stuck
def eDNew (t : Bool) : E := fun _ A => alloc A (.dic t false [])
def oNo : Sl → Hs → RE (Option Int) := fun _ A => .ok none A
def oSo (a : E) : Sl → Hs → RE (Option Int) := fun env A => (a env A).bind fun x A1 => match x with
  | .int i => .ok (some i) A1
  | _ => .stuck
def eSl (o : D → Option Int → Option Int → Hs → RE D) (a : E) (l h : Sl → Hs → RE (Option Int)) : E := fun env A => (a env A).bind fun x A1 => (l env A1).bind fun lo A2 => (h env A2).bind fun hi A3 => o x lo hi A3

/-! ### statements -/
def sSeq (a b : S) : S := fun env A => match a env A with
  | .nx env' A' => b env' A'
  | r => r
def sNx : S := fun env A => .nx env A
def sBk : S := fun env A => .bk env A
def sCt : S := fun env A => .ct env A
def ofE (env : Sl) (r : RE D) (k : D → Hs → RS) : RS := match r with
  | .ok d A => k d A
  | .exc C A => .exc C env A
  | .stuck => .stuck
def ofT (env : Sl) (r : RE Bool) (k : Bool → Hs → RS) : RS := match r with
  | .ok d A => k d A
  | .exc C A => .exc C env A
  | .stuck => .stuck
def sDrop (a : E) : S := fun env A => ofE env (a env A) fun _ A1 => .nx env A1
def sRet (a : E) : S := fun env A => ofE env (a env A) fun d A1 => .rt d A1
def sRetN : S := fun _ A => .rt .non A
def sIf (t : Tt) (a b : S) : S := fun env A => ofT env (t env A) fun c A1 => if c = true then a env A1 else b env A1
/-- targets -/
abbrev G := D → Sl → Hs → Option Sl
def gN (i : Nat) : G := fun d env _ => some (env.set i (some d))
def gAll : List G → List D → Sl → Hs → Option Sl
  | [], [], env, _ => some env
  | g :: gs, d :: ds, env, A => match g d env A with
    | some env' => gAll gs ds env' A
    | none => none
  | _, _, _, _ => none
def gT (gs : List G) : G := fun d env A => match d with
  | .tup ds => gAll gs ds env A
  | _ => none
def sAsg (a : E) (g : G) : S := fun env A => ofE env (a env A) fun d A1 => match g d env A1 with
  | some env' => .nx env' A1
  | none => .stuck
def sSet (i : Nat) (a : E) : S := fun env A => ofE env (a env A) fun d A1 => .nx (env.set i (some d)) A1
/-- a, b = x, y -/
def sPar (i j : Nat) (as : As) : S := fun env A => match as env A with
  | .ok [x, y] A1 => .nx ((env.set i (some x)).set j (some y)) A1
  | .exc C A1 => .exc C env A1
  | _ => .stuck
def sAug (i : Nat) (o : D → D → Hs → RE D) (a : E) : S := fun env A => match env[i]? with
  | some (some x) => ofE env (a env A) fun y A1 => ofE env (o x y A1) fun z A2 => .nx (env.set i (some z)) A2
  | _ => .stuck
def putF (f : String) (d : D) : List (String × D) → List (String × D)
  | [] => [(f, d)]
  | (g, e) :: r => if g = f then (g, d) :: r else (g, e) :: putF f d r
def setFld (cs : List String) (A : Hs) (x : D) (f : String) (d : D) : Option Hs := match x with
  | .ref i => match A[i]? with
    | some (.obj C fs) => if C ∈ cs ∧ fs.length < 999 then some (A.set i (.obj C (putF f d fs))) else none
    | _ => none
  | _ => none
/-- o.f = e -/
def sFl (cs : List String) (f : String) (o a : E) : S := fun env A => ofE env (a env A) fun d A1 => ofE env (o env A1) fun x A2 => match setFld cs A2 x f d with
  | some A3 => .nx env A3
  | none => .stuck
/-- o.f op= e -/
def sFlAug (cs : List String) (f : String) (op : D → D → Hs → RE D) (o a : E) : S := fun env A => ofE env (o env A) fun x A1 => match getFld cs f A1 x with
  | some v => ofE env (a env A1) fun y A2 => ofE env (op v y A2) fun z A3 => match setFld cs A3 x f z with
    | some A4 => .nx env A4
    | none => .stuck
  | none => .stuck
/-- what is walked: the items; what must stand for the walk to go on -/
structure Wk where
  ds : List D
  gd : Hs → Prop
open Classical in
noncomputable def forL (g : G) (b : S) (gd : Hs → Prop) : List D → S
  | [], env, A => if gd A then .nx env A else .stuck
  | d :: ds, env, A => if gd A then match g d env A with
    | some env1 => match b env1 A with
      | .nx env2 A2 => forL g b gd ds env2 A2
      | .ct env2 A2 => forL g b gd ds env2 A2
      | .bk env2 A2 => .nx env2 A2
      | r => r
    | none => .stuck
    else .stuck
noncomputable def sFor (w : Sl → Hs → RE Wk) (g : G) (b : S) : S := fun env A => match w env A with
  | .ok k A1 => forL g b k.gd k.ds env A1
  | .exc C A1 => .exc C env A1
  | .stuck => .stuck
/-- the slots of a block's own names, not known -/
def wipeS (env : Sl) : List Nat → Sl
  | [] => env
  | v :: vs => (wipeS env vs).set v none
open Classical in
noncomputable def lcL (g : G) (t : Tt) (a : E) (gd : Hs → Prop) (env : Sl) : List D → List D → Hs → RE (List D)
  | [], acc, A => if gd A then .ok acc A else .stuck
  | d :: ds, acc, A => if gd A then match g d env A with
    | some env1 => match t env1 A with
      | .ok true A1 => match a env1 A1 with
        | .ok x A2 => if acc.length < sizeLine then lcL g t a gd env ds (acc ++ [x]) A2 else .stuck
        | _ => .stuck
      | .ok false A1 => lcL g t a gd env ds acc A1
      | _ => .stuck
    | none => .stuck
    else .stuck
/-- a list comprehension; vs: the block's own slots -/
noncomputable def eLc (w : Sl → Hs → RE Wk) (g : G) (t : Tt) (a : E) (vs : List Nat) : E := fun env A => (w env A).bind fun k A1 => match lcL g t a k.gd (wipeS env vs) k.ds [] A1 with
  | .ok l A2 => alloc A2 (.lst l)
  | _ => .stuck
/-- a def by its body: n parameters, m names -/
def mkFn (n m : Nat) (b : S) : Fn := fun ds A => if ds.length = n then match b (ds.map some ++ List.replicate (m - n) none) A with
    | .nx _ A' => .ok .non A'
    | .rt d A' => .ok d A'
    | .exc C _ A' => .exc C A'
    | _ => .stuck
  else .stuck
/-- raise C('..') -/
def sRaise (C : String) : S := fun env A => .exc C env A
/-- try: b / except (catches) as i: slot j = it -/
def sTryK (catches : List String) (i j : Nat) (b : S) : S := fun env A => match b env A with
  | .exc C env1 A1 => if C ∈ catches then .nx (((env1.set i (some (.exc C))).set j (some (.exc C))).set i none) A1 else .stuck
  | r => r
/-- try: b / except (catches): s -/
def sTryO (catches : List String) (b s : S) : S := fun env A => match b env A with
  | .exc C env1 A1 => if C ∈ catches then s env1 A1 else .stuck
  | r => r

end SM

/-! ## how the plain functions stand to the program: the relation of the heaps -/
namespace SM
open PySem L2
open DL (Ex ExK)

/-- where the names' things stand; T: the tables of code objects, the names in them -/
structure CaT where
  fn : String → Addr
  T : List (Addr × Str)
instance : CoeFun CaT (fun _ => String → Addr) := ⟨CaT.fn⟩
/-- free, or a table of code objects -/
def Fr1 (H : Hp) (a : Addr) : Prop := ∀ u, H a = some u → ∃ ps, u = .tbl ps
theorem Fr1.none {H : Hp} {a : Addr} (h : H a = none) : Fr1 H a := fun u e => by rw [h] at e; cases e
theorem Fr1.back {H H' : Hp} {a : Addr} (h : Fr1 H' a) (k : ∀ u, H a = some u → H' a = some u) : Fr1 H a := fun u e => h u (k u e)
/-- no table, no code object -/
def Ordy : HO → Prop
  | .lst _ => True
  | .dK _ => True
  | .dT _ => True
  | .ins _ _ _ => True
  | .frz _ _ => True
  | .tup _ => True
  | .ext φ => ∃ a kvs, HO.ext φ = NdO a kvs
  | _ => False
theorem ndO_ordy {a : Addr} {kvs : List (NestedKey × Addr × V)} : Ordy (NdO a kvs) := by
  unfold NdO; exact ⟨a, kvs, rfl⟩
theorem Ordy.tbl {u : HO} (o : Ordy u) (ps : Array Value) : u ≠ .tbl ps := fun z => by rw [z] at o; exact o
theorem Ordy.code {u : HO} (o : Ordy u) (c : Addr) (q : Str) : u ≠ LamX.CodeO c q := fun z => by
  rw [z] at o
  obtain ⟨a, kvs, e⟩ := (show ∃ a kvs, LamX.CodeO c q = NdO a kvs from o)
  exact ndO_code a kvs c q e.symm
theorem Fr1.no {H : Hp} {a : Addr} {u : HO} (h : Fr1 H a) (e : H a = some u) (o : Ordy u) : False := by
  obtain ⟨ps, z⟩ := h u e
  exact o.tbl ps z
theorem tabs_upd {T : List (Addr × Str)} {H : Hp} {a : Addr} {u w : HO} (h : LamX.Tabs T H) (e : H a = some w) (o : Ordy w) : LamX.Tabs T (upd H a u) := fun p hp => by
  obtain ⟨ps, h1, h2, h3⟩ := h p hp
  refine ⟨ps, ?_, h2, fun pos cv hc => ?_⟩
  · rw [upd_ne fun z => by rw [z, e] at h1; exact o.tbl ps (Option.some.inj h1)]; exact h1
  · obtain ⟨c, e1, e2⟩ := h3 pos cv hc
    exact ⟨c, e1, by rw [upd_ne fun z => by rw [z, e] at e2; exact o.code _ _ (Option.some.inj e2)]; exact e2⟩
/-- m begins m' -/
abbrev Pre (m m' : List Addr) : Prop := ∃ r, m' = m ++ r
theorem Pre.refl (m : List Addr) : Pre m m := ⟨[], by simp⟩
theorem Pre.trans {a b c : List Addr} (x : Pre a b) (y : Pre b c) : Pre a c := by
  obtain ⟨r, rfl⟩ := x; obtain ⟨s, rfl⟩ := y; exact ⟨r ++ s, by simp⟩
theorem Pre.get {m m' : List Addr} {i : Nat} {a : Addr} (x : Pre m m') (h : m[i]? = some a) : m'[i]? = some a := by
  obtain ⟨r, rfl⟩ := x
  rw [List.getElem?_append_left (List.getElem?_eq_some_iff.mp h).1]; exact h
theorem Pre.mem {m m' : List Addr} {a : Addr} (x : Pre m m') (h : a ∈ m) : a ∈ m' := by
  obtain ⟨r, rfl⟩ := x; exact List.mem_append_left _ h

mutual
inductive Rep (K : PySem.W.Frag) (ca : CaT) (F : Hp) (m : List Addr) : V → D → Prop
  | non : Rep K ca F m .non .non
  | bl (b : Bool) : Rep K ca F m (.bl b) (.bl b)
  | int (i : Int) : Rep K ca F m (.int i) (.int i)
  | str (x : Str) : Rep K ca F m (.str x) (.str x)
  | ty (n : String) : Rep K ca F m (.ty n) (.ty n)
  | tup {a : Addr} {vs : List V} {l : List D} : F a = some (.tup vs) → RepL K ca F m vs l → Rep K ca F m (.ref a) (.tup l)
  | wt {a : Addr} {vs : List V} {l : List D} : SqT K F a vs → RepL K ca F m vs l → Rep K ca F m (.ref a) (.wt l)
  | scr {a : Addr} {vs : List V} {l : List D} : SqL K F a vs → RepL K ca F m vs l → Rep K ca F m (.ref a) (.scr l)
  | ref {a : Addr} {i : Nat} : m[i]? = some a → Rep K ca F m (.ref a) (.ref i)
  | nm (x : String) : Rep K ca F m (.ref (ca x)) (.nm x)
  | exc {a : Addr} {C : String} : F a = some (ExK (ca C) a) → Rep K ca F m (.ref a) (.exc C)
inductive RepL (K : PySem.W.Frag) (ca : CaT) (F : Hp) (m : List Addr) : List V → List D → Prop
  | nil : RepL K ca F m [] []
  | cons {v : V} {vs : List V} {d : D} {ds : List D} : Rep K ca F m v d → RepL K ca F m vs ds → RepL K ca F m (v :: vs) (d :: ds)
end
section
variable {K : PySem.W.Frag} {ca : CaT} {F F' : Hp} {m m' : List Addr}
mutual
theorem Rep.mono (e : Ex F F') (p : Pre m m') : ∀ {v : V} {d : D}, Rep K ca F m v d → Rep K ca F' m' v d
  | _, _, .non => .non
  | _, _, .bl b => .bl b
  | _, _, .int i => .int i
  | _, _, .str x => .str x
  | _, _, .ty n => .ty n
  | _, _, .tup h r => .tup (e _ _ h) (RepL.mono e p r)
  | _, _, .wt h r => .wt (e.t h) (RepL.mono e p r)
  | _, _, .scr h r => .scr (e.l h) (RepL.mono e p r)
  | _, _, .ref h => .ref (p.get h)
  | _, _, .nm x => .nm x
  | _, _, .exc h => .exc (e _ _ h)
theorem RepL.mono (e : Ex F F') (p : Pre m m') : ∀ {vs : List V} {ds : List D}, RepL K ca F m vs ds → RepL K ca F' m' vs ds
  | _, _, .nil => .nil
  | _, _, .cons h r => .cons (Rep.mono e p h) (RepL.mono e p r)
end
theorem RepL.length : ∀ {vs : List V} {ds : List D}, RepL K ca F m vs ds → vs.length = ds.length
  | _, _, .nil => rfl
  | _, _, .cons _ r => by rw [List.length_cons, List.length_cons, r.length]
theorem RepL.get : ∀ {vs : List V} {ds : List D} {i : Nat} {d : D}, RepL K ca F m vs ds → ds[i]? = some d → ∃ v, vs[i]? = some v ∧ Rep K ca F m v d
  | _, _, _, _, .nil, h => by simp at h
  | _, _, 0, _, .cons h _, e => by simp at e; subst e; exact ⟨_, rfl, h⟩
  | _, _, i + 1, _, .cons _ r, e => by
    obtain ⟨v, h1, h2⟩ := RepL.get (i := i) r (by simpa using e)
    exact ⟨v, by simpa using h1, h2⟩
theorem RepL.append : ∀ {vs ws : List V} {ds es : List D}, RepL K ca F m vs ds → RepL K ca F m ws es → RepL K ca F m (vs ++ ws) (ds ++ es)
  | _, _, _, _, .nil, s => s
  | _, _, _, _, .cons h r, s => .cons h (RepL.append r s)
theorem RepL.take : ∀ {vs : List V} {ds : List D} (n : Nat), RepL K ca F m vs ds → RepL K ca F m (vs.take n) (ds.take n)
  | _, _, 0, _ => .nil
  | _, _, _ + 1, .nil => .nil
  | _, _, n + 1, .cons h r => .cons h (RepL.take n r)
theorem RepL.drop : ∀ {vs : List V} {ds : List D} (n : Nat), RepL K ca F m vs ds → RepL K ca F m (vs.drop n) (ds.drop n)
  | _, _, 0, r => r
  | _, _, _ + 1, .nil => .nil
  | _, _, n + 1, .cons _ r => RepL.drop n r
theorem RepL.set {v : V} {d : D} (h : Rep K ca F m v d) : ∀ {vs : List V} {ds : List D} (n : Nat), RepL K ca F m vs ds → RepL K ca F m (vs.set n v) (ds.set n d)
  | _, _, _, .nil => .nil
  | _, _, 0, .cons _ r => .cons h r
  | _, _, n + 1, .cons q r => .cons q (RepL.set h n r)
theorem RepL.reverse : ∀ {vs : List V} {ds : List D}, RepL K ca F m vs ds → RepL K ca F m vs.reverse ds.reverse
  | _, _, .nil => .nil
  | _, _, .cons h r => by
    rw [List.reverse_cons, List.reverse_cons]
    exact (RepL.reverse r).append (.cons h .nil)
theorem RepL.eraseIdx : ∀ {vs : List V} {ds : List D} (n : Nat), RepL K ca F m vs ds → RepL K ca F m (vs.eraseIdx n) (ds.eraseIdx n)
  | _, _, _, .nil => .nil
  | _, _, 0, .cons _ r => r
  | _, _, n + 1, .cons q r => .cons q (RepL.eraseIdx n r)
theorem RepL.flatRep {vs : List V} {ds : List D} (h : RepL K ca F m vs ds) : ∀ n : Nat, RepL K ca F m (List.replicate n vs).flatten (List.replicate n ds).flatten
  | 0 => .nil
  | n + 1 => by
    rw [List.replicate_succ, List.replicate_succ, List.flatten_cons, List.flatten_cons]
    exact h.append (RepL.flatRep h n)
/-- ints, truths, texts: the values are those of the data -/
theorem RepL.ints : ∀ {vs : List V} {ns : List Int}, RepL K ca F m vs (ns.map D.int) → vs = ns.map V.int
  | _, [], h => by cases h; rfl
  | _, n :: r, h => by
    cases h with
    | cons q t => cases q; rw [RepL.ints t]; rfl
theorem RepL.bools : ∀ {vs : List V} {ns : List Bool}, RepL K ca F m vs (ns.map D.bl) → vs = ns.map V.bl
  | _, [], h => by cases h; rfl
  | _, n :: r, h => by
    cases h with
    | cons q t => cases q; rw [RepL.bools t]; rfl
theorem RepL.of_ints : ∀ {ns : List Int}, RepL K ca F m (ns.map V.int) (ns.map D.int)
  | [] => .nil
  | n :: _ => .cons (.int n) RepL.of_ints
end
/-- keys -/
def kD : Key → D
  | .inl i => .int i
  | .inr x => .str x
def kT (l : List Key) : D := .tup (l.map kD)
inductive KvR (K : PySem.W.Frag) (ca : CaT) (F : Hp) (m : List Addr) {κ δ : Type} (kd : κ → δ) : List (κ × V) → List (δ × D) → Prop
  | nil : KvR K ca F m kd [] []
  | cons {k : κ} {v : V} {d : D} {r : List (κ × V)} {s : List (δ × D)} : Rep K ca F m v d → KvR K ca F m kd r s → KvR K ca F m kd ((k, v) :: r) ((kd k, d) :: s)
theorem KvR.mono {K : PySem.W.Frag} {ca : CaT} {F F' : Hp} {m m' : List Addr} {κ δ : Type} {kd : κ → δ} (e : Ex F F') (p : Pre m m') : ∀ {l : List (κ × V)} {s : List (δ × D)}, KvR K ca F m kd l s → KvR K ca F' m' kd l s
  | _, _, .nil => .nil
  | _, _, .cons h r => .cons (h.mono e p) (KvR.mono e p r)
theorem KvR.length {K : PySem.W.Frag} {ca : CaT} {F : Hp} {m : List Addr} {κ δ : Type} {kd : κ → δ} : ∀ {l : List (κ × V)} {s : List (δ × D)}, KvR K ca F m kd l s → l.length = s.length
  | _, _, .nil => rfl
  | _, _, .cons _ r => by rw [List.length_cons, List.length_cons, KvR.length r]
/-- the object u stands at a, locked or not -/
def At (H : Hp) (a : Addr) : Bool → HO → Prop
  | false, u => H a = some u
  | true, u => ∃ od, H a = some (.frz od u)
def fS (f : String) : Str := ⟨(f.toList.map Char.toNat).toArray⟩
theorem fS_inj {f g : String} : fS f = fS g ↔ f = g := by
  refine ⟨fun h => ?_, fun h => by rw [h]⟩
  unfold fS at h
  injection h with h
  have h2 : f.toList.map Char.toNat = g.toList.map Char.toNat := by
    have := congrArg Array.toList h
    simpa using this
  have inj : ∀ a b : Char, a.toNat = b.toNat → a = b := fun a b e => Char.ext (UInt32.toNat_inj.mp e)
  have h3 : ∀ (l m : List Char), l.map Char.toNat = m.map Char.toNat → l = m := by
    intro l
    induction l with
    | nil => intro m h; cases m with
      | nil => rfl
      | cons _ _ => simp at h
    | cons a l ih =>
      intro m h
      cases m with
      | nil => simp at h
      | cons b m =>
        rw [List.map_cons, List.map_cons] at h
        injection h with h1 h2
        rw [inj a b h1, ih m h2]
  exact String.toList_inj.mp (h3 _ _ h2)
/-- fields by their names -/
inductive FdR (K : PySem.W.Frag) (ca : CaT) (F : Hp) (m : List Addr) : List (Str × V) → List (String × D) → Prop
  | nil : FdR K ca F m [] []
  | cons {f : String} {v : V} {d : D} {r : List (Str × V)} {s : List (String × D)} : Rep K ca F m v d → FdR K ca F m r s → FdR K ca F m ((fS f, v) :: r) ((f, d) :: s)
theorem FdR.mono {K : PySem.W.Frag} {ca : CaT} {F F' : Hp} {m m' : List Addr} (e : Ex F F') (p : Pre m m') : ∀ {l : List (Str × V)} {s : List (String × D)}, FdR K ca F m l s → FdR K ca F' m' l s
  | _, _, .nil => .nil
  | _, _, .cons h r => .cons (h.mono e p) (FdR.mono e p r)
theorem FdR.length {K : PySem.W.Frag} {ca : CaT} {F : Hp} {m : List Addr} : ∀ {l : List (Str × V)} {s : List (String × D)}, FdR K ca F m l s → l.length = s.length
  | _, _, .nil => rfl
  | _, _, .cons _ r => by rw [List.length_cons, List.length_cons, FdR.length r]
inductive NdR (K : PySem.W.Frag) (ca : CaT) (F : Hp) (m : List Addr) : List (NestedKey × Addr × V) → List (NestedKey × D) → Prop
  | nil : NdR K ca F m [] []
  | cons {k : NestedKey} {q : Addr} {v : V} {d : D} {r : List (NestedKey × Addr × V)} {s : List (NestedKey × D)} : Rep K ca F m v d → NdR K ca F m r s → NdR K ca F m ((k, q, v) :: r) ((k, d) :: s)
theorem NdR.mono {K : PySem.W.Frag} {ca : CaT} {F F' : Hp} {m m' : List Addr} (e : Ex F F') (p : Pre m m') : ∀ {l : List (NestedKey × Addr × V)} {s : List (NestedKey × D)}, NdR K ca F m l s → NdR K ca F' m' l s
  | _, _, .nil => .nil
  | _, _, .cons h r => .cons (h.mono e p) (NdR.mono e p r)
theorem NdR.length {K : PySem.W.Frag} {ca : CaT} {F : Hp} {m : List Addr} : ∀ {l : List (NestedKey × Addr × V)} {s : List (NestedKey × D)}, NdR K ca F m l s → l.length = s.length
  | _, _, .nil => rfl
  | _, _, .cons _ r => by rw [List.length_cons, List.length_cons, NdR.length r]
def ORep (K : PySem.W.Frag) (ca : CaT) (F : Hp) (m : List Addr) (H : Hp) (a : Addr) : O → Prop
  | .lst l => ∃ vs, H a = some (.lst vs) ∧ RepL K ca F m vs l
  | .dic false lk l => ∃ kvs, At H a lk (.dK kvs) ∧ KvR K ca F m kD kvs l
  | .dic true lk l => ∃ kvs, At H a lk (.dT kvs) ∧ KvR K ca F m kT kvs l
  | .obj C fs => ∃ dx kvs, H a = some (.ins (ca C) dx kvs) ∧ FdR K ca F m kvs fs
  | .nd l => ∃ kvs, H a = some (NdO a kvs) ∧ NdOk F a kvs ∧ NdR K ca F m kvs l
theorem At.mono {H H' : Hp} {a : Addr} {lk : Bool} {u : HO} (h : At H a lk u) (k : ∀ w, H a = some w → H' a = some w) : At H' a lk u := by
  cases lk with
  | false => exact k _ h
  | true => obtain ⟨od, h⟩ := h; exact ⟨od, k _ h⟩
section
variable {K : PySem.W.Frag} {ca : CaT} {F F' H H' : Hp} {m m' : List Addr} {a : Addr} {o : O}
theorem ORep.mono (h : ORep K ca F m H a o) (e : Ex F F') (p : Pre m m') (k : ∀ u, H a = some u → H' a = some u) : ORep K ca F' m' H' a o := by
  cases o with
  | lst l => obtain ⟨vs, x, r⟩ := h; exact ⟨vs, k _ x, r.mono e p⟩
  | dic t lk l =>
    cases t with
    | false => obtain ⟨kvs, x, r⟩ := h; exact ⟨kvs, x.mono k, r.mono e p⟩
    | true => obtain ⟨kvs, x, r⟩ := h; exact ⟨kvs, x.mono k, r.mono e p⟩
  | obj C fs => obtain ⟨dx, kvs, x, r⟩ := h; exact ⟨dx, kvs, k _ x, r.mono e p⟩
  | nd l => obtain ⟨kvs, x, ok, r⟩ := h; exact ⟨kvs, k _ x, ok.mono fun a xs z => e a _ z, r.mono e p⟩
theorem ORep.ordy (h : ORep K ca F m H a o) : ∃ u, H a = some u ∧ Ordy u := by
  cases o with
  | lst l => obtain ⟨vs, x, r⟩ := h; exact ⟨_, x, trivial⟩
  | dic t lk l =>
    cases t with
    | false =>
      obtain ⟨kvs, x, r⟩ := h
      cases lk with
      | false => exact ⟨_, x, trivial⟩
      | true => obtain ⟨od, x⟩ := x; exact ⟨_, x, trivial⟩
    | true =>
      obtain ⟨kvs, x, r⟩ := h
      cases lk with
      | false => exact ⟨_, x, trivial⟩
      | true => obtain ⟨od, x⟩ := x; exact ⟨_, x, trivial⟩
  | obj C fs => obtain ⟨dx, kvs, x, _⟩ := h; exact ⟨_, x, trivial⟩
  | nd l => obtain ⟨kvs, x, _⟩ := h; exact ⟨_, x, ndO_ordy⟩
theorem ORep.ho (h : ORep K ca F m H a o) : ∃ u, H a = some u := by
  cases o with
  | lst l => obtain ⟨vs, x, r⟩ := h; exact ⟨_, x⟩
  | dic t lk l =>
    cases t with
    | false =>
      obtain ⟨kvs, x, r⟩ := h
      cases lk with
      | false => exact ⟨_, x⟩
      | true => obtain ⟨od, x⟩ := x; exact ⟨_, x⟩
    | true =>
      obtain ⟨kvs, x, r⟩ := h
      cases lk with
      | false => exact ⟨_, x⟩
      | true => obtain ⟨od, x⟩ := x; exact ⟨_, x⟩
  | obj C fs => obtain ⟨dx, kvs, x, _⟩ := h; exact ⟨_, x⟩
  | nd l => obtain ⟨kvs, x, _⟩ := h; exact ⟨_, x⟩
end
/-- the plain heap A is the heap H: m tells where its objects stand, F what never changes -/
structure Rl (K : PySem.W.Frag) (ca : CaT) (F : Hp) (m : List Addr) (A : Hs) (H : Hp) : Prop where
  fh : Ex F H
  len : m.length = A.length
  nd : m.Nodup
  fr : ∀ a ∈ m, F a = none
  ob : ∀ (i : Nat) (o : O) (a : Addr), A[i]? = some o → m[i]? = some a → ORep K ca F m H a o
  tb : LamX.Tabs ca.T H
  ft : ∀ a ps, F a ≠ some (.tbl ps)
/-- what a step leaves -/
structure Stp (F : Hp) (m : List Addr) (H F' : Hp) (m' : List Addr) (H' : Hp) : Prop where
  ff : Ex F F'
  mm : Pre m m'
  kp : ∀ a u, H a = some u → a ∉ m → (∀ ps, u ≠ .tbl ps) → H' a = some u
  gn : ∀ a, F' a ≠ none → F a ≠ none ∨ Fr1 H a ∨ ∃ xs, F' a = some (.tup xs)
  gm : ∀ a, a ∈ m' → a ∈ m ∨ Fr1 H a
  th : ∀ a, Fr1 H' a → Fr1 H a
  fz : ∀ a o u, H a = some (.frz o u) → H' a = some (.frz o u)
structure Slt (K : PySem.W.Frag) (ca : CaT) (F : Hp) (m : List Addr) (σ : L2.St) (env : Sl) : Prop where
  len : σ.length = env.length
  val : ∀ (i : Nat) (d : D), env[i]? = some (some d) → ∃ v : V, σ[i]? = some (some v) ∧ Rep K ca F m v d
section
variable {K : PySem.W.Frag} {ca : CaT} {F F1 F2 H H1 H2 : Hp} {m m1 m2 : List Addr} {A : Hs} {σ : L2.St} {env : Sl} {p : Addr} {u : HO} {o : O} {d : D} {v : V} {i : Nat}
theorem Stp.refl : Stp F m H F m H := ⟨Ex.refl _, Pre.refl _, fun _ _ h _ _ => h, fun a h => .inl h, fun a h => .inl h, fun _ h => h, fun _ _ _ h => h⟩
theorem Stp.trans (x : Stp F m H F1 m1 H1) (y : Stp F1 m1 H1 F2 m2 H2) : Stp F m H F2 m2 H2 := by
  refine ⟨x.ff.trans y.ff, x.mm.trans y.mm, fun a u h n nt => ?_, fun a h => ?_, fun a h => ?_, fun a h => x.th a (y.th a h), fun a o u h => y.fz a o u (x.fz a o u h)⟩
  · refine y.kp a u (x.kp a u h n nt) (fun hm => ?_) nt
    rcases x.gm a hm with q | q
    · exact n q
    · obtain ⟨ps, z⟩ := q u h
      exact nt ps z
  · rcases y.gn a h with q | q | q
    · rcases x.gn a q with z | z | ⟨xs, z⟩
      · exact .inl z
      · exact .inr (.inl z)
      · exact .inr (.inr ⟨xs, y.ff a _ z⟩)
    · exact .inr (.inl (x.th a q))
    · exact .inr (.inr q)
  · rcases y.gm a h with q | q
    · exact x.gm a q
    · exact .inr (x.th a q)
theorem Slt.mono (S : Slt K ca F m σ env) (e : Ex F F1) (p : Pre m m1) : Slt K ca F1 m1 σ env := ⟨S.len, fun i d h => by
  obtain ⟨v, h1, h2⟩ := S.val i d h
  exact ⟨v, h1, h2.mono e p⟩⟩
theorem Slt.stp (S : Slt K ca F m σ env) (x : Stp F m H F1 m1 H1) : Slt K ca F1 m1 σ env := S.mono x.ff x.mm
theorem Slt.set (S : Slt K ca F m σ env) (r : Rep K ca F m v d) : Slt K ca F m (σ.set i (some v)) (env.set i (some d)) := ⟨by simp [S.len], fun j e h => by
  by_cases q : i = j
  · subst q
    rw [List.getElem?_set] at h ⊢
    have l := S.len
    split at h
    · split at h
      · cases h
        refine ⟨v, ?_, r⟩
        simp_all
      · cases h
    · rename_i z; exact absurd rfl z
  · rw [List.getElem?_set_ne q] at h ⊢
    exact S.val j e h⟩
theorem Slt.unset (S : Slt K ca F m σ env) : Slt K ca F m (σ.set i none) (env.set i none) := ⟨by simp [S.len], fun j e h => by
  by_cases q : i = j
  · subst q
    rw [List.getElem?_set] at h
    split at h
    · split at h <;> cases h
    · rename_i z; exact absurd rfl z
  · rw [List.getElem?_set_ne q] at h ⊢
    exact S.val j e h⟩
theorem Rl.ordy (R : Rl K ca F m A H) {a : Addr} (ha : m[i]? = some a) : ∃ u, H a = some u ∧ Ordy u := by
  have il : i < A.length := by rw [← R.len]; exact (List.getElem?_eq_some_iff.mp ha).1
  exact (R.ob i A[i] a (List.getElem?_eq_getElem il) ha).ordy
theorem Rl.ne (R : Rl K ca F m A H) {a : Addr} (h : a ∈ m) : H a ≠ none := by
  obtain ⟨i, hi⟩ := List.getElem?_of_mem h
  have l : i < A.length := by rw [← R.len]; exact (List.getElem?_eq_some_iff.mp hi).1
  obtain ⟨u, hu⟩ := (R.ob i A[i] a (by simp [l]) hi).ho
  rw [hu]; simp
theorem Rl.out (R : Rl K ca F m A H) {a : Addr} (h : H a = none) : a ∉ m := fun q => R.ne q h
/-- a new thing that stands -/
theorem Rl.new (R : Rl K ca F m A H) (n : H p = none) (hu : ∀ ps, u ≠ HO.tbl ps := by intro _ h; cases h) : Rl K ca (upd F p u) m A (upd H p u) ∧ Stp F m H (upd F p u) m (upd H p u) := by
  have nf := R.fh.back n
  refine ⟨⟨R.fh.both, R.len, R.nd, fun a h => ?_, fun i o a h1 h2 => (R.ob i o a h1 h2).mono (Ex.new nf) (Pre.refl _) fun w hw => Ex.new n a w hw, R.tb.ext fun b o h => Ex.new n b o h, fun a ps => ?_⟩, Ex.new nf, Pre.refl _, fun a w h _ _ => Ex.new n a w h, fun a h => ?_, fun a h => .inl h, fun a h => h.back fun u hu => Ex.new n a u hu, fun a o w h => Ex.new n a _ h⟩
  · rw [upd_ne (fun z => R.out n (by rw [← z]; exact h))]; exact R.fr a h
  · by_cases q : a = p
    · subst q; rw [upd_same]; exact fun z => hu ps (Option.some.inj z)
    · rw [upd_ne q]; exact R.ft a ps
  · by_cases q : a = p
    · subst q; exact .inr (.inl (.none n))
    · rw [upd_ne q] at h; exact .inl h
/-- a tuple that stands is known from now on -/
theorem Rl.catch {vs : List V} (R : Rl K ca F m A H) (h : H p = some (.tup vs)) : ∃ F1, Rl K ca F1 m A H ∧ Stp F m H F1 m H ∧ F1 p = some (.tup vs) := by
  have nm : p ∉ m := fun hm => by
    obtain ⟨i, hi⟩ := List.getElem?_of_mem hm
    have l : i < A.length := by rw [← R.len]; exact (List.getElem?_eq_some_iff.mp hi).1
    have r := R.ob i A[i] p (by simp [l]) hi
    cases q : A[i] with
    | lst l => rw [q] at r; obtain ⟨vs, x, _⟩ := r; rw [h] at x; cases x
    | obj C fs => rw [q] at r; obtain ⟨dx, kvs, x, _⟩ := r; rw [h] at x; cases x
    | nd l => rw [q] at r; obtain ⟨kvs, x, _⟩ := r; rw [h] at x; unfold NdO at x; cases x
    | dic t lk l =>
      rw [q] at r
      cases t with
      | false =>
        obtain ⟨kvs, x, _⟩ := r
        cases lk with
        | false => have x : H p = some (.dK kvs) := x; rw [h] at x; cases x
        | true => obtain ⟨od, x⟩ := x; rw [h] at x; cases x
      | true =>
        obtain ⟨kvs, x, _⟩ := r
        cases lk with
        | false => have x : H p = some (.dT kvs) := x; rw [h] at x; cases x
        | true => obtain ⟨od, x⟩ := x; rw [h] at x; cases x
  have e : Ex F (upd F p (.tup vs)) := fun a o ha => by
    by_cases q : a = p
    · subst q
      have := R.fh a o ha
      rw [h] at this
      cases this
      exact upd_same
    · rw [upd_ne q]; exact ha
  refine ⟨upd F p (.tup vs), ⟨fun a o ha => ?_, R.len, R.nd, fun a ha => ?_, fun i o a h1 h2 => (R.ob i o a h1 h2).mono e (Pre.refl _) fun w hw => hw, R.tb, fun a ps => ?_⟩, ⟨e, Pre.refl _, fun a w h _ _ => h, fun a ha => ?_, fun a h => .inl h, fun a h => h, fun a o w h => h⟩, upd_same⟩
  · by_cases q : a = p
    · subst q; rw [upd_same] at ha; cases ha; exact h
    · rw [upd_ne q] at ha; exact R.fh a o ha
  · rw [upd_ne (fun z => nm (by rw [← z]; exact ha))]; exact R.fr a ha
  · by_cases q : a = p
    · subst q; rw [upd_same]; intro z; cases z
    · rw [upd_ne q]; exact R.ft a ps
  · by_cases q : a = p
    · subst q; exact .inr (.inr ⟨vs, upd_same⟩)
    · rw [upd_ne q] at ha; exact .inl ha
/-- a new thing that nobody tracks -/
theorem Rl.newH (R : Rl K ca F m A H) (n : H p = none) : Rl K ca F m A (upd H p u) ∧ Stp F m H F m (upd H p u) := by
  refine ⟨⟨R.fh.trans (Ex.new n), R.len, R.nd, R.fr, fun i o a h1 h2 => (R.ob i o a h1 h2).mono (Ex.refl _) (Pre.refl _) fun w hw => Ex.new n a w hw, R.tb.ext fun b o h => Ex.new n b o h, R.ft⟩, Ex.refl _, Pre.refl _, fun a w h _ _ => Ex.new n a w h, fun a h => .inl h, fun a h => .inl h, fun a h => h.back fun u hu => Ex.new n a u hu, fun a o w h => Ex.new n a _ h⟩
/-- what is there is taken into the plain heap -/
theorem Rl.take (R : Rl K ca F m A H) (n : p ∉ m) (nf : F p = none) (r : ORep K ca F (m ++ [p]) H p o) : Rl K ca F (m ++ [p]) (A ++ [o]) H := by
  refine ⟨R.fh, by simp [R.len], ?_, fun a h => ?_, fun i o' a h1 h2 => ?_, R.tb, R.ft⟩
  · rw [List.nodup_append]
    refine ⟨R.nd, by simp, fun a h b hb e => ?_⟩
    rw [List.mem_singleton] at hb
    exact n (by rw [← hb, ← e]; exact h)
  · rcases List.mem_append.mp h with q | q
    · exact R.fr a q
    · rw [List.mem_singleton] at q; rw [q]; exact nf
  · by_cases q : i < A.length
    · rw [List.getElem?_append_left q] at h1
      rw [List.getElem?_append_left (by rw [R.len]; exact q)] at h2
      exact (R.ob i o' a h1 h2).mono (Ex.refl _) ⟨[p], rfl⟩ fun _ h => h
    · rw [List.getElem?_append_right (Nat.le_of_not_lt q)] at h1
      rw [List.getElem?_append_right (by rw [R.len]; exact Nat.le_of_not_lt q)] at h2
      rw [R.len] at h2
      have e : i - A.length = 0 := by
        have := (List.getElem?_eq_some_iff.mp h1).1
        simp at this; omega
      rw [e] at h1 h2
      cases h1; cases h2; exact r
/-- a new object of the plain heap -/
theorem Rl.alloc (R : Rl K ca F m A H) (n : H p = none) (r : ORep K ca F (m ++ [p]) (upd H p u) p o) : Rl K ca F (m ++ [p]) (A ++ [o]) (upd H p u) ∧ Stp F m H F (m ++ [p]) (upd H p u) ∧ Rep K ca F (m ++ [p]) (.ref p) (.ref A.length) := by
  obtain ⟨R1, g1⟩ := R.newH (u := u) n
  refine ⟨R1.take (R.out n) (R.fh.back n) r, ⟨Ex.refl _, ⟨[p], rfl⟩, g1.kp, g1.gn, fun a h => ?_, g1.th, g1.fz⟩, .ref (by rw [List.getElem?_append_right (by rw [R.len]; exact Nat.le_refl _), R.len]; simp)⟩
  rcases List.mem_append.mp h with q | q
  · exact .inl q
  · rw [List.mem_singleton] at q; exact .inr (by rw [q]; exact .none n)
/-- an object of the plain heap is another one now -/
theorem Rl.put {a : Addr} {o' : O} (R : Rl K ca F m A H) (ha : m[i]? = some a) (nz : ∀ od w, H a ≠ some (.frz od w)) (r : ORep K ca F m (upd H a u) a o') : Rl K ca F m (A.set i o') (upd H a u) ∧ Stp F m H F m (upd H a u) := by
  have hm : a ∈ m := List.mem_of_getElem? ha
  have fa := R.fr a hm
  obtain ⟨w0, e0, o0⟩ := R.ordy ha
  refine ⟨⟨R.fh.right fa, by simp [R.len], R.nd, R.fr, fun j o b h1 h2 => ?_, tabs_upd R.tb e0 o0, R.ft⟩, Ex.refl _, Pre.refl _, fun b w h n _ => ?_, fun a h => .inl h, fun a h => .inl h, fun b h => ?_, fun b od w h => ?_⟩
  · by_cases q : i = j
    · subst q
      rw [ha] at h2; cases h2
      rw [List.getElem?_set] at h1
      split at h1
      · split at h1
        · cases h1; exact r
        · cases h1
      · rename_i z; exact absurd rfl z
    · rw [List.getElem?_set_ne q] at h1
      have nb : b ≠ a := fun z => q (by
        subst z
        exact (List.getElem?_inj (List.getElem?_eq_some_iff.mp ha).1 R.nd).mp (ha.trans h2.symm))
      exact (R.ob j o b h1 h2).mono (Ex.refl _) (Pre.refl _) fun w hw => by rw [upd_ne nb]; exact hw
  · rw [upd_ne fun z => n (by rw [z]; exact hm)]; exact h
  · by_cases q : b = a
    · subst q
      obtain ⟨w1, e1, o1⟩ := r.ordy
      exact (h.no e1 o1).elim
    · exact h.back fun u hu => by rw [upd_ne q]; exact hu
  · rw [upd_ne fun z => nz od w (by rw [← z]; exact h)]; exact h
theorem Rl.at (R : Rl K ca F m A H) (hA : A[i]? = some o) (r : Rep K ca F m v (.ref i)) : ∃ a, v = .ref a ∧ m[i]? = some a ∧ ORep K ca F m H a o := by
  cases r with
  | ref h => exact ⟨_, rfl, h, R.ob i o _ hA h⟩

/-! ### simulations -/
/-- what is wanted behind it, told of the plain end -/
def Po {α β : Type} (K : PySem.W.Frag) (ca : CaT) (Rr : Hp → List Addr → β → α → Prop) (F : Hp) (m : List Addr) (H : Hp) (W : WX) (σ : L2.St) (Q : β → Hp → Prop) : RE α → Prop
  | .ok a A' => ∀ v F' m' H', Rl K ca F' m' A' H' → Stp F m H F' m' H' → Rr F' m' v a → Q v H'
  | .exc C A' => ∀ F' m' H', Rl K ca F' m' A' H' → Stp F m H F' m' H' → W (.ref (ca C)) none σ H'
  | .stuck => False
def Sim {α β : Type} (K : PySem.W.Frag) (ca : CaT) (Rr : Hp → List Addr → β → α → Prop) (W : WX) (te : L2.St → Hp → (β → Hp → Prop) → Prop) (f : Sl → Hs → RE α) : Prop :=
  ∀ F m A σ H env Q, Rl K ca F m A H → Slt K ca F m σ env → Po K ca Rr F m H W σ Q (f env A) → te σ H Q
def ReqI {α : Type} : Hp → List Addr → α → α → Prop := fun _ _ b c => b = c
abbrev SimE (K : PySem.W.Frag) (ca : CaT) (W : WX) (te : TE) (f : E) : Prop := Sim K ca (Rep K ca) W te f
abbrev SimT (K : PySem.W.Frag) (ca : CaT) (W : WX) (te : TT) (f : Tt) : Prop := Sim K ca ReqI W te f
abbrev SimA (K : PySem.W.Frag) (ca : CaT) (W : WX) (te : TA) (f : As) : Prop := Sim K ca (RepL K ca) W te f
abbrev SimO (K : PySem.W.Frag) (ca : CaT) (W : WX) (te : TO) (f : Sl → Hs → RE (Option Int)) : Prop := Sim K ca ReqI W te f
end
section
variable {K : PySem.W.Frag} {ca : CaT} {F F1 F2 H H1 H2 : Hp} {m m1 m2 : List Addr} {A : Hs} {σ : L2.St} {env : Sl} {W : WX}
theorem Po.stp {α β : Type} {Rr : Hp → List Addr → β → α → Prop} {Q : β → Hp → Prop} {r : RE α} (h : Po K ca Rr F m H W σ Q r) (g : Stp F m H F1 m1 H1) : Po K ca Rr F1 m1 H1 W σ Q r := by
  cases r with
  | ok a A' => exact fun v F' m' H' R g' q => h v F' m' H' R (g.trans g') q
  | exc C A' => exact fun F' m' H' R g' => h F' m' H' R (g.trans g')
  | stuck => exact h
theorem Po.imp {α β : Type} {Rr : Hp → List Addr → β → α → Prop} {Q Q' : β → Hp → Prop} {r : RE α} (h : Po K ca Rr F m H W σ Q r) (k : ∀ v H, Q v H → Q' v H) : Po K ca Rr F m H W σ Q' r := by
  cases r with
  | ok a A' => exact fun v F' m' H' R g' q => k _ _ (h v F' m' H' R g' q)
  | exc C A' => exact h
  | stuck => exact h
/-- first f, then g -/
theorem Sim.bind {α β γ δ : Type} {Rr : Hp → List Addr → β → α → Prop} {Rs : Hp → List Addr → δ → γ → Prop} {te : L2.St → Hp → (β → Hp → Prop) → Prop} {f : Sl → Hs → RE α} (h : Sim K ca Rr W te f) (R : Rl K ca F m A H) (S : Slt K ca F m σ env) {g : α → Hs → RE γ}
    {Q : δ → Hp → Prop} {T : β → Hp → Prop} (p : Po K ca Rs F m H W σ Q ((f env A).bind g))
    (k : ∀ F1 m1 A1 H1 x a, Rl K ca F1 m1 A1 H1 → Stp F m H F1 m1 H1 → Slt K ca F1 m1 σ env → Rr F1 m1 x a → Po K ca Rs F1 m1 H1 W σ Q (g a A1) → T x H1) : te σ H T := by
  refine h F m A σ H env T R S ?_
  cases q : f env A with
  | ok a A1 =>
    rw [q] at p
    exact fun v F1 m1 H1 R1 g1 r => k F1 m1 A1 H1 v a R1 g1 (S.stp g1) r (Po.stp p g1)
  | exc C A1 => rw [q] at p; exact p
  | stuck => rw [q] at p; exact p
/-! ### expressions -/
variable {ta tb tc te : TE} {a b c : E} {i : Nat} {d : D} {t u : TT} {ft fu : Tt} {ts : TA} {as : As}
theorem se_var : SimE K ca W (tVar i) (eVar i) := fun F m A σ H env Q R S p => by
  unfold eVar at p
  cases q : env[i]? with
  | none => rw [q] at p; exact p.elim
  | some z =>
    cases z with
    | none => rw [q] at p; exact p.elim
    | some d =>
      rw [q] at p
      obtain ⟨v, h1, h2⟩ := S.val i d q
      exact ⟨v, h1, p v F m H R Stp.refl h2⟩
theorem se_c {v : V} (h : ∀ F m, Rep K ca F m v d) : SimE K ca W (tC v) (eC d) := fun F m A σ H env Q R S p => p v F m H R Stp.refl (h F m)
theorem se_int {n : Int} : SimE K ca W (tC (.int n)) (eC (.int n)) := se_c fun _ _ => .int n
theorem se_bl {c : Bool} : SimE K ca W (tC (.bl c)) (eC (.bl c)) := se_c fun _ _ => .bl c
theorem se_non : SimE K ca W (tC .non) (eC .non) := se_c fun _ _ => .non
theorem se_ty {x : String} : SimE K ca W (tC (.ty x)) (eC (.ty x)) := se_c fun _ _ => .ty x
/-- an operator: two operands' values, their data -/
def OpS (K : PySem.W.Frag) (ca : CaT) (r : R2) (o : D → D → Hs → RE D) : Prop := ∀ F m A H x y dx dy W σ Q, Rl K ca F m A H → Rep K ca F m x dx → Rep K ca F m y dy → Po K ca (Rep K ca) F m H W σ Q (o dx dy A) → r x y H Q
theorem se_op {r : R2} {o : D → D → Hs → RE D} (h : OpS K ca r o) (ha : SimE K ca W ta a) (hb : SimE K ca W tb b) : SimE K ca W (tOp r ta tb) (eOp o a b) := fun F m A σ H env Q R S p =>
  ha.bind R S p fun F1 m1 A1 H1 x dx R1 g1 S1 rx p1 => hb.bind R1 S1 p1 fun F2 m2 A2 H2 y dy R2 g2 S2 ry p2 => h F2 m2 A2 H2 x y dx dy W σ Q R2 (rx.mono g2.ff g2.mm) ry p2
def UnS (K : PySem.W.Frag) (ca : CaT) (r : V → Hp → VK → Prop) (o : D → Hs → RE D) : Prop := ∀ F m A H x dx W σ Q, Rl K ca F m A H → Rep K ca F m x dx → Po K ca (Rep K ca) F m H W σ Q (o dx A) → r x H Q
theorem se_un {r : V → Hp → VK → Prop} {o : D → Hs → RE D} (h : UnS K ca r o) (ha : SimE K ca W ta a) : SimE K ca W (tUn r ta) (eUn o a) := fun F m A σ H env Q R S p =>
  ha.bind R S p fun F1 m1 A1 H1 x dx R1 g1 S1 rx p1 => h F1 m1 A1 H1 x dx W σ Q R1 rx p1
theorem sa_nil : SimA K ca W tNil aNil := fun F m A σ H env Q R S p => p [] F m H R Stp.refl .nil
theorem sa_cons (ha : SimE K ca W ta a) (hs : SimA K ca W ts as) : SimA K ca W (tCons ta ts) (aCons a as) := fun F m A σ H env Q R S p =>
  ha.bind R S p fun F1 m1 A1 H1 x dx R1 g1 S1 rx p1 => hs.bind R1 S1 p1 fun F2 m2 A2 H2 xs ds R2 g2 S2 rs p2 => p2 (x :: xs) F2 m2 H2 R2 Stp.refl (.cons (rx.mono g2.ff g2.mm) rs)
def CbS (K : PySem.W.Frag) (ca : CaT) (r : List V → Hp → VK → Prop) (o : List D → Hs → RE D) : Prop := ∀ F m A H xs ds W σ Q, Rl K ca F m A H → RepL K ca F m xs ds → Po K ca (Rep K ca) F m H W σ Q (o ds A) → r xs H Q
theorem se_cb {r : List V → Hp → VK → Prop} {o : List D → Hs → RE D} (h : CbS K ca r o) (hs : SimA K ca W ts as) : SimE K ca W (tCB r ts) (eCB o as) := fun F m A σ H env Q R S p =>
  hs.bind R S p fun F1 m1 A1 H1 xs ds R1 g1 S1 rx p1 => h F1 m1 A1 H1 xs ds W σ Q R1 rx p1
theorem se_and (ha : SimE K ca W ta a) (hb : SimE K ca W tb b) : SimE K ca W (tAndV ta tb) (eAnd a b) := fun F m A σ H env Q R S p =>
  ha.bind R S p fun F1 m1 A1 H1 x dx R1 g1 S1 rx p1 => by
    cases rx with
    | bl c =>
      refine ⟨c, rfl, ?_⟩
      cases c with
      | true => exact hb F1 m1 A1 σ H1 env Q R1 S1 p1
      | false => exact p1 _ F1 m1 H1 R1 Stp.refl (.bl false)
    | _ => exact p1.elim
theorem se_not (ha : SimE K ca W ta a) : SimE K ca W (tNotV ta) (eNot a) := fun F m A σ H env Q R S p =>
  ha.bind R S p fun F1 m1 A1 H1 x dx R1 g1 S1 rx p1 => by
    cases rx with
    | bl c => exact ⟨c, rfl, p1 _ F1 m1 H1 R1 Stp.refl (.bl _)⟩
    | _ => exact p1.elim
theorem se_ch {q q' : R2} {o o' : D → D → Hs → RE D} (h : OpS K ca q o) (h' : OpS K ca q' o') (ha : SimE K ca W ta a) (hb : SimE K ca W tb b) (hc : SimE K ca W tc c) : SimE K ca W (tChain q q' ta tb tc) (eCh o o' a b c) := fun F m A σ H env Q R S p =>
  ha.bind R S p fun F1 m1 A1 H1 x dx R1 g1 S1 rx p1 => hb.bind R1 S1 p1 fun F2 m2 A2 H2 y dy R2 g2 S2 ry p2 => by
    refine h F2 m2 A2 H2 x y dx dy W σ _ R2 (rx.mono g2.ff g2.mm) ry ?_
    cases w : o dx dy A2 with
    | stuck => rw [w] at p2; exact p2
    | exc C A3 => rw [w] at p2; exact p2
    | ok z A3 =>
      rw [w] at p2
      intro v F3 m3 H3 R3 g3 rz
      have p3 := Po.stp p2 g3
      cases rz with
      | bl k =>
        refine ⟨k, rfl, ?_⟩
        cases k with
        | false => exact p3 _ F3 m3 H3 R3 Stp.refl (.bl false)
        | true => exact hc.bind R3 (S2.stp g3) p3 fun F4 m4 A4 H4 w dw R4 g4 S4 rw' p4 => h' F4 m4 A4 H4 y w dy dw W σ Q R4 (ry.mono (g3.ff.trans g4.ff) (g3.mm.trans g4.mm)) rw' p4
      | _ => exact p3.elim
theorem st_test (ha : SimE K ca W ta a) : SimT K ca W (tTest ta) (tOf a) := fun F m A σ H env Q R S p =>
  ha.bind R S p fun F1 m1 A1 H1 x dx R1 g1 S1 rx p1 => by
    cases rx with
    | bl c => exact ⟨c, rfl, p1 _ F1 m1 H1 R1 Stp.refl rfl⟩
    | _ => exact p1.elim
theorem st_b (ha : SimE K ca W ta a) : SimT K ca W (tB ta) (tOf a) := fun F m A σ H env Q R S p =>
  ha.bind R S p fun F1 m1 A1 H1 x dx R1 g1 S1 rx p1 => by
    cases rx with
    | bl c => exact ⟨c, rfl, p1 _ F1 m1 H1 R1 Stp.refl rfl⟩
    | _ => exact p1.elim
theorem st_not (ht : SimT K ca W t ft) : SimT K ca W (tNot t) (tNo ft) := fun F m A σ H env Q R S p =>
  ht.bind R S p fun F1 m1 A1 H1 x dx R1 g1 S1 rx p1 => by
    cases (show x = dx from rx)
    exact p1 _ F1 m1 H1 R1 Stp.refl rfl
theorem st_and (ht : SimT K ca W t ft) (hu : SimT K ca W u fu) : SimT K ca W (tAnd t u) (tAn ft fu) := fun F m A σ H env Q R S p =>
  ht.bind R S p fun F1 m1 A1 H1 x dx R1 g1 S1 rx p1 => by
    cases (show x = dx from rx)
    cases x with
    | true => exact hu F1 m1 A1 σ H1 env Q R1 S1 p1
    | false => exact p1 _ F1 m1 H1 R1 Stp.refl rfl
theorem st_or (ht : SimT K ca W t ft) (hu : SimT K ca W u fu) : SimT K ca W (tOr t u) (tOo ft fu) := fun F m A σ H env Q R S p =>
  ht.bind R S p fun F1 m1 A1 H1 x dx R1 g1 S1 rx p1 => by
    cases (show x = dx from rx)
    cases x with
    | false => exact hu F1 m1 A1 σ H1 env Q R1 S1 p1
    | true => exact p1 _ F1 m1 H1 R1 Stp.refl rfl
theorem st_yes : SimT K ca W tYes tYe := fun F m A σ H env Q R S p => p _ F m H R Stp.refl rfl
theorem se_if (ht : SimT K ca W t ft) (ha : SimE K ca W ta a) (hb : SimE K ca W tb b) : SimE K ca W (tIf t ta tb) (eIf ft a b) := fun F m A σ H env Q R S p =>
  ht.bind R S p fun F1 m1 A1 H1 x dx R1 g1 S1 rx p1 => by
    cases (show x = dx from rx)
    cases x with
    | true => exact ha F1 m1 A1 σ H1 env Q R1 S1 p1
    | false => exact hb F1 m1 A1 σ H1 env Q R1 S1 p1
theorem se_tup (hs : SimA K ca W ts as) : SimE K ca W (tTup ts) (eTup as) := fun F m A σ H env Q R S p =>
  hs.bind R S p fun F1 m1 A1 H1 xs ds R1 g1 S1 rs p1 => by
    split at p1
    · rename_i hl
      refine ⟨by rw [rs.length]; exact hl, fun q hq => ?_⟩
      obtain ⟨R2, g2⟩ := R1.new (u := .tup xs) hq
      exact p1 _ _ _ _ R2 g2 (.tup upd_same (rs.mono g2.ff g2.mm))
    · exact p1.elim
theorem po_alloc {Q : VK} {p : Addr} {u : HO} {o : O} (R : Rl K ca F m A H) (n : H p = none) (r : ORep K ca F (m ++ [p]) (upd H p u) p o) (h : Po K ca (Rep K ca) F m H W σ Q (alloc A o)) : Q (.ref p) (upd H p u) := by
  obtain ⟨R2, g2, q⟩ := R.alloc n r
  exact h _ _ _ _ R2 g2 q
theorem se_lst (hs : SimA K ca W ts as) : SimE K ca W (tLst ts) (eLst as) := fun F m A σ H env Q R S p =>
  hs.bind R S p fun F1 m1 A1 H1 xs ds R1 g1 S1 rs p1 => by
    split at p1
    · rename_i hl
      exact ⟨by rw [rs.length]; exact hl, fun q hq => po_alloc (o := .lst ds) R1 hq ⟨xs, upd_same, rs.mono (Ex.refl _) ⟨_, rfl⟩⟩ p1⟩
    · exact p1.elim
theorem se_dnewK : SimE K ca W tDNewK (eDNew false) := fun F m A σ H env Q R S p q hq => po_alloc (o := .dic false false []) R hq ⟨[], upd_same, .nil⟩ p
theorem so_none : SimO K ca W tNoPart oNo := fun F m A σ H env Q R S p => p _ F m H R Stp.refl rfl
theorem so_some (ha : SimE K ca W ta a) : SimO K ca W (tPart ta) (oSo a) := fun F m A σ H env Q R S p =>
  ha.bind R S p fun F1 m1 A1 H1 x dx R1 g1 S1 rx p1 => by
    cases rx with
    | int i => exact ⟨i, rfl, p1 _ F1 m1 H1 R1 Stp.refl rfl⟩
    | _ => exact p1.elim
def SlS (K : PySem.W.Frag) (ca : CaT) (r : V → Option Int → Option Int → Hp → VK → Prop) (o : D → Option Int → Option Int → Hs → RE D) : Prop := ∀ F m A H x dx lo hi W σ Q, Rl K ca F m A H → Rep K ca F m x dx → Po K ca (Rep K ca) F m H W σ Q (o dx lo hi A) → r x lo hi H Q
theorem se_sl {r : V → Option Int → Option Int → Hp → VK → Prop} {o : D → Option Int → Option Int → Hs → RE D} {tl th : TO} {fl fh : Sl → Hs → RE (Option Int)} (h : SlS K ca r o) (ha : SimE K ca W ta a) (hl : SimO K ca W tl fl) (hh : SimO K ca W th fh) : SimE K ca W (tSl r ta tl th) (eSl o a fl fh) := fun F m A σ H env Q R S p =>
  ha.bind R S p fun F1 m1 A1 H1 x dx R1 g1 S1 rx p1 => hl.bind R1 S1 p1 fun F2 m2 A2 H2 lo lo' R2 g2 S2 rl p2 => hh.bind R2 S2 p2 fun F3 m3 A3 H3 hi hi' R3 g3 S3 rh p3 => by
    cases (show lo = lo' from rl)
    cases (show hi = hi' from rh)
    exact h F3 m3 A3 H3 x dx lo hi W σ Q R3 (rx.mono (g2.ff.trans g3.ff) (g2.mm.trans g3.mm)) p3

/-! ### promises -/
def PoF (K : PySem.W.Frag) (ca : CaT) (F : Hp) (m : List Addr) (H : Hp) (Q : VK) (E : XK) : RE D → Prop
  | .ok a A' => ∀ v F' m' H', Rl K ca F' m' A' H' → Stp F m H F' m' H' → Rep K ca F' m' v a → Q v H'
  | .exc C A' => ∀ F' m' H', Rl K ca F' m' A' H' → Stp F m H F' m' H' → E (.ref (ca C)) none H'
  | .stuck => False
/-- THE PROMISE: it does what the plain function does -/
def SpF (K : PySem.W.Frag) (ca : CaT) (f : Fn) : Sp := fun vs H Q E => ∃ F m A ds, Rl K ca F m A H ∧ RepL K ca F m vs ds ∧ PoF K ca F m H Q E (f ds A)
theorem pof_po {Q : VK} {r : RE D} (h : Po K ca (Rep K ca) F m H W σ Q r) : PoF K ca F m H Q (WE W σ) r := by
  cases r <;> exact h
theorem pof_noX {Q : VK} {X : XK} {r : RE D} (h : Po K ca (Rep K ca) F m H W σ Q r.noX) : PoF K ca F m H Q X r := by
  cases r with
  | ok a A => exact h
  | exc C A => exact h.elim
  | stuck => exact h.elim
theorem se_call {f : Fn} (hs : SimA K ca W ts as) : SimE K ca W (tCallS (SpF K ca f) (WE W) ts) (eCall f as) := fun F m A σ H env Q R S p =>
  hs.bind R S p fun F1 m1 A1 H1 xs ds R1 g1 S1 rs p1 => ⟨F1, m1, A1, ds, R1, rs, pof_po p1⟩
theorem se_call0 {f : Fn} {X : XK} (hs : SimA K ca W ts as) : SimE K ca W (tCall (SpF K ca f) [] X ts) (eCall0 f as) := fun F m A σ H env Q R S p =>
  hs.bind R S p fun F1 m1 A1 H1 xs ds R1 g1 S1 rs p1 => ⟨F1, m1, A1, ds, R1, by rw [List.append_nil]; exact rs, pof_noX p1⟩

/-! ### fields -/
theorem fS_look {f : String} : ∀ {l : List (Str × V)} {s : List (String × D)}, FdR K ca F m l s → (∀ d, s.lookup f = some d → ∃ v, l.lookup (fS f) = some v ∧ Rep K ca F m v d) ∧ (s.lookup f = none → l.lookup (fS f) = none)
  | _, _, .nil => ⟨fun d h => by simp at h, fun _ => rfl⟩
  | _, _, .cons (f := g) (v := v) (d := e) h r => by
    have ih := fS_look (f := f) r
    by_cases q : f = g
    · subst q
      refine ⟨fun d z => ?_, fun z => ?_⟩
      · rw [List.lookup_cons_self] at z; cases z
        exact ⟨v, by rw [List.lookup_cons_self], h⟩
      · rw [List.lookup_cons_self] at z; cases z
    · have q1 : (f == g) = false := by simpa using q
      have q2 : (fS f == fS g) = false := by
        rw [beq_eq_false_iff_ne]
        exact fun z => q (fS_inj.mp z)
      refine ⟨fun d z => ?_, fun z => ?_⟩
      · rw [List.lookup_cons, q1] at z
        obtain ⟨w, h1, h2⟩ := ih.1 d z
        exact ⟨w, by rw [List.lookup_cons, q2]; exact h1, h2⟩
      · rw [List.lookup_cons, q1] at z
        rw [List.lookup_cons, q2]; exact ih.2 z
end
end SM

/-! ## methods that may raise -/
namespace L2
open PySem PySem.Spec PyProof.Rows
def tMethX (C : Addr) (m : Str) (sp : Sp) (E : St → XK) (ta : TE) (t : TA) : TE := fun σ H Q => ta σ H fun x H1 => ∃ a dx fs, x = .ref a ∧ H1 a = some (.ins C dx fs) ∧ fs.lookup m = none ∧
  t σ H1 fun vs H2 => sp (x :: vs) H2 Q (E σ)
section
variable {X : Cx} {CX : CXT} {k : Nat} {f C : Addr} {fd : FuncData} {ps : List Str} {sp : Sp} {E : St → XK} {x m : Str} {p pos apos : Pos} {e o : Expr} {es : List Expr} {ta : TE} {t : TA}
theorem pe_methX {pl : Sem Bool} (he : PE X o ta) (c : Cls X.K C) (hm : Meth X.K C m f) (F : FnOk X.prog X.w X.K X.mg X.base CX k f fd ps sp) (hr : Room k X.A) (hb : Binds X.K fd ps []) (hx : ∀ σ, PassesAt CX X σ (E σ)) (ha : PA X (e :: es) t)
    (hst : starEach (e :: es) X.env = (false, eval e X.env) :: starEach es X.env := by rfl) (hpl : (backTo pos (starEach es X.env)).any (·.1) = false := by rfl)
    (ht : eval (.Call (.Attribute o m apos) (e :: es) [] pos) X.env = (do
      let ov ← eval o X.env
      standAt apos.atName
      let (f, first) ← holding [ov] (getMethod ov m pl)
      callWith pos f first (backTo pos (starEach (e :: es) X.env)) (backToKw pos (keywordEach [] X.env))) := by rfl) :
    PE X (.Call (.Attribute o m apos) (e :: es) [] pos) (tMethX C m sp E ta t) := by
  refine ⟨fun pins s σ H Q I h => ?_⟩
  refine PySem.W.methodCall_KW (pl := pl) (thn (he.run pins s σ H _ I h) fun u s1 ⟨x, H1, I1, rx, a, dx, fs, ex, ea, l, q⟩ => ?_) ht
  subst ex
  obtain rfl : u = Value.ref a := rx
  refine getmeth_ok I1 ea c hm l ?_
  refine PySem.W.callWith_K (first := [.ref a]) (h₀ := X.base) I.ok.mod.kin hm.kp (thn (ha.run pos pins s1 σ H1 _ I1 q) fun us s2 ⟨vs, H2, I2, r, q2⟩ => ⟨I2.kIn, ?_⟩) hst hpl
  exact run_fnS (us := .ref a :: us) (vs := .ref a :: vs) F hr hb (hx σ) I2 (.cons rfl r) q2
theorem PE.or {X : Cx} {e : Expr} {t u : TE} (h1 : PE X e t) (h2 : PE X e u) : PE X e (fun σ H Q => t σ H Q ∨ u σ H Q) := ⟨fun pins s σ H Q I h => by
  rcases h with h | h
  · exact h1.run pins s σ H Q I h
  · exact h2.run pins s σ H Q I h⟩
theorem PS.or {X : Cx} {st : Stmt} {t u : TS} (h1 : PS X st t) (h2 : PS X st u) : PS X st (fun D σ H => t D σ H ∨ u D σ H) := ⟨fun pins s σ H D I h => by
  rcases h with h | h
  · exact h1.run pins s σ H D I h
  · exact h2.run pins s σ H D I h⟩
end
end L2
/-! ## fields, calls, statements -/
namespace SM
open PySem L2
open DL (Ex ExK tRaise tTry tTryO)
section
variable {K : PySem.W.Frag} {ca : CaT} {F F1 F2 H H1 H2 : Hp} {m m1 m2 : List Addr} {A A1 A2 : Hs} {σ : L2.St} {env : Sl} {W : WX}
variable {ta tb tc te : TE} {a b c : E} {i : Nat} {d : D} {t u : TT} {ft fu : Tt} {ts : TA} {as : As} {x : V} {dx : D} {C : String} {fs : List (String × D)} {cs : List String}
theorem obj_at (R : Rl K ca F m A H) (r : Rep K ca F m x dx) (h : objAt A dx = some (C, fs)) : ∃ i a dxx kvs, dx = .ref i ∧ x = .ref a ∧ m[i]? = some a ∧ A[i]? = some (.obj C fs) ∧ H a = some (.ins (ca C) dxx kvs) ∧ FdR K ca F m kvs fs := by
  cases dx with
  | ref i =>
    unfold objAt at h
    cases q : A[i]? with
    | none => simp [q] at h
    | some o =>
      cases o with
      | obj C' fs' =>
        simp [q] at h
        obtain ⟨rfl, rfl⟩ := h
        obtain ⟨a, e, ha, dxx, kvs, h1, h2⟩ := R.at q r
        exact ⟨i, a, dxx, kvs, rfl, e, ha, q, h1, h2⟩
      | lst _ => simp [q] at h
      | dic _ _ _ => simp [q] at h
      | nd _ => simp [q] at h
  | _ => simp [objAt] at h
/-- the classes cs, that know no name f -/
def NoF (K : PySem.W.Frag) (ca : CaT) (cs : List String) (f : Str) : Prop := AllC (fun C => Cls K (ca C) ∧ NoAttr K (ca C) f) cs
theorem getFld_at {f : String} {f' : Str} (hf : f' = fS f) (R : Rl K ca F m A H) (r : Rep K ca F m x dx) (kc : NoF K ca cs f') (h : getFld cs f A dx = some d) : ∃ a C dxx kvs v, C ∈ cs ∧ x = .ref a ∧ H a = some (.ins (ca C) dxx kvs) ∧ Cls K (ca C) ∧ NoAttr K (ca C) f' ∧ kvs.lookup f' = some v ∧ Rep K ca F m v d := by
  unfold getFld at h
  cases q : objAt A dx with
  | none => rw [q] at h; cases h
  | some z =>
    obtain ⟨C, fs⟩ := z
    rw [q] at h
    simp only at h
    split at h
    · rename_i hc
      obtain ⟨i, a, dxx, kvs, e1, e2, h1, h2, h3, h4⟩ := obj_at R r q
      obtain ⟨v, h5, h6⟩ := (fS_look (f := f) h4).1 d h
      have kk := AllC.of kc hc
      exact ⟨a, C, dxx, kvs, v, hc, e2, h3, kk.1, kk.2, by rw [hf]; exact h5, h6⟩
    · cases h
theorem se_fld {f : String} {f' : Str} (hf : f' = fS f) (kc : NoF K ca cs f') (ha : SimE K ca W ta a) : SimE K ca W (tFld K ta f') (eFld cs f a) := fun F m A σ H env Q R S p =>
  ha.bind R S p fun F1 m1 A1 H1 x dx R1 g1 S1 rx p1 => by
    cases q : getFld cs f A1 dx with
    | none => simp only [q] at p1; exact p1.elim
    | some d =>
      simp only [q] at p1
      obtain ⟨a, C, dxx, kvs, v, _, e, h1, h2, h3, h4, h5⟩ := getFld_at hf R1 rx kc q
      exact ⟨a, ca C, dxx, kvs, v, e, h1, h2, h3, h4, p1 v F1 m1 H1 R1 Stp.refl h5⟩
theorem putF_rep {f : String} {v : V} (hv : Rep K ca F m v d) : ∀ {kvs : List (Str × V)} {fs : List (String × D)}, FdR K ca F m kvs fs → FdR K ca F m (L2.putF (fS f) v kvs) (putF f d fs)
  | _, _, .nil => .cons hv .nil
  | _, _, .cons (f := g) h r => by
    unfold L2.putF SM.putF
    by_cases q : g = f
    · subst q; rw [if_pos rfl, if_pos rfl]; exact .cons hv r
    · rw [if_neg q, if_neg (fun z => q (fS_inj.mp z))]; exact .cons h (putF_rep hv r)
theorem setFld_at {f : String} {f' : Str} {v : V} (hf : f' = fS f) (R : Rl K ca F m A H) (r : Rep K ca F m x dx) (rv : Rep K ca F m v d) (kc : NoF K ca cs f') (h : setFld cs A dx f d = some A2) :
    ∃ a C dxx kvs, C ∈ cs ∧ x = .ref a ∧ H a = some (.ins (ca C) dxx kvs) ∧ Cls K (ca C) ∧ NoAttr K (ca C) f' ∧ kvs.length < 999 ∧ Rl K ca F m A2 (upd H a (.ins (ca C) dxx (L2.putF f' v kvs))) ∧ Stp F m H F m (upd H a (.ins (ca C) dxx (L2.putF f' v kvs))) := by
  unfold setFld at h
  cases dx with
  | ref i =>
    simp only at h
    cases q : A[i]? with
    | none => simp [q] at h
    | some o =>
      cases o with
      | obj C fs =>
        simp only [q] at h
        split at h
        · rename_i hc
          cases h
          obtain ⟨a, e, ha, dxx, kvs, h1, h2⟩ := R.at q r
          have kk := AllC.of kc hc.1
          obtain ⟨R2, g2⟩ := R.put (u := .ins (ca C) dxx (L2.putF f' v kvs)) (o' := .obj C (putF f d fs)) ha (fun od w z => by rw [h1] at z; cases z) ⟨dxx, _, upd_same, by rw [hf]; exact putF_rep rv h2⟩
          exact ⟨a, C, dxx, kvs, hc.1, e, h1, kk.1, kk.2, by rw [h2.length]; exact hc.2, R2, g2⟩
        · cases h
      | lst _ => simp [q] at h
      | dic _ _ _ => simp [q] at h
      | nd _ => simp [q] at h
  | _ => simp at h

/-! ### statements -/
def PoS (K : PySem.W.Frag) (ca : CaT) (F : Hp) (m : List Addr) (H : Hp) (W : WX) (Dn : Ends) : RS → Prop
  | .nx e A' => ∀ F' m' σ' H', Rl K ca F' m' A' H' → Stp F m H F' m' H' → Slt K ca F' m' σ' e → Dn.nx σ' H'
  | .bk e A' => ∀ F' m' σ' H', Rl K ca F' m' A' H' → Stp F m H F' m' H' → Slt K ca F' m' σ' e → Dn.bk σ' H'
  | .ct e A' => ∀ F' m' σ' H', Rl K ca F' m' A' H' → Stp F m H F' m' H' → Slt K ca F' m' σ' e → Dn.ct σ' H'
  | .rt d A' => ∀ v F' m' H', Rl K ca F' m' A' H' → Stp F m H F' m' H' → Rep K ca F' m' v d → Dn.rt v H'
  | .exc C e A' => ∀ F' m' σ' H', Rl K ca F' m' A' H' → Stp F m H F' m' H' → Slt K ca F' m' σ' e → W (.ref (ca C)) none σ' H'
  | .stuck => False
def SimS (K : PySem.W.Frag) (ca : CaT) (W : WX) (t : TS) (f : S) : Prop := ∀ F m A σ H env Dn, Rl K ca F m A H → Slt K ca F m σ env → PoS K ca F m H W Dn (f env A) → t Dn σ H
variable {s1 s2 s : TS} {f1 f2 f : S} {Dn : Ends}
theorem PoS.stp {r : RS} (h : PoS K ca F m H W Dn r) (g : Stp F m H F1 m1 H1) : PoS K ca F1 m1 H1 W Dn r := by
  cases r with
  | nx e A' => exact fun F' m' σ' H' R g' q => h F' m' σ' H' R (g.trans g') q
  | bk e A' => exact fun F' m' σ' H' R g' q => h F' m' σ' H' R (g.trans g') q
  | ct e A' => exact fun F' m' σ' H' R g' q => h F' m' σ' H' R (g.trans g') q
  | rt d A' => exact fun v F' m' H' R g' q => h v F' m' H' R (g.trans g') q
  | exc C e A' => exact fun F' m' σ' H' R g' q => h F' m' σ' H' R (g.trans g') q
  | stuck => exact h
/-- the value of an expression, then a statement's rest -/
theorem ofE_bind {k : D → Hs → RS} {T : VK} (h : SimE K ca W te a) (R : Rl K ca F m A H) (S : Slt K ca F m σ env) (p : PoS K ca F m H W Dn (ofE env (a env A) k))
    (kk : ∀ F1 m1 A1 H1 x d, Rl K ca F1 m1 A1 H1 → Stp F m H F1 m1 H1 → Slt K ca F1 m1 σ env → Rep K ca F1 m1 x d → PoS K ca F1 m1 H1 W Dn (k d A1) → T x H1) : te σ H T := by
  refine h F m A σ H env T R S ?_
  cases q : a env A with
  | ok d A1 =>
    rw [q] at p
    exact fun v F1 m1 H1 R1 g1 r => kk F1 m1 A1 H1 v d R1 g1 (S.stp g1) r (PoS.stp p g1)
  | exc C A1 => rw [q] at p; exact fun F1 m1 H1 R1 g1 => p F1 m1 σ H1 R1 g1 (S.stp g1)
  | stuck => rw [q] at p; exact p
theorem ofT_bind {k : Bool → Hs → RS} {T : Bool → Hp → Prop} (h : SimT K ca W t ft) (R : Rl K ca F m A H) (S : Slt K ca F m σ env) (p : PoS K ca F m H W Dn (ofT env (ft env A) k))
    (kk : ∀ F1 m1 A1 H1 c, Rl K ca F1 m1 A1 H1 → Stp F m H F1 m1 H1 → Slt K ca F1 m1 σ env → PoS K ca F1 m1 H1 W Dn (k c A1) → T c H1) : t σ H T := by
  refine h F m A σ H env T R S ?_
  cases q : ft env A with
  | ok d A1 =>
    rw [q] at p
    intro v F1 m1 H1 R1 g1 r
    cases (show v = d from r)
    exact kk F1 m1 A1 H1 d R1 g1 (S.stp g1) (PoS.stp p g1)
  | exc C A1 => rw [q] at p; exact fun F1 m1 H1 R1 g1 => p F1 m1 σ H1 R1 g1 (S.stp g1)
  | stuck => rw [q] at p; exact p
theorem ss_seq (h1 : SimS K ca W s1 f1) (h2 : SimS K ca W s2 f2) : SimS K ca W (tSeq s1 s2) (sSeq f1 f2) := fun F m A σ H env Dn R S p => by
  refine h1 F m A σ H env { Dn with nx := s2 Dn } R S ?_
  unfold sSeq at p
  cases q : f1 env A with
  | nx e A1 =>
    rw [q] at p
    exact fun F' m' σ' H' R' g' S' => h2 F' m' A1 σ' H' e Dn R' S' (PoS.stp p g')
  | bk e A1 => rw [q] at p; exact p
  | ct e A1 => rw [q] at p; exact p
  | rt d A1 => rw [q] at p; exact p
  | exc C e A1 => rw [q] at p; exact p
  | stuck => rw [q] at p; exact p
theorem ss_next : SimS K ca W tNext sNx := fun F m A σ H env Dn R S p => p F m σ H R Stp.refl S
theorem ss_cont : SimS K ca W tCont sCt := fun F m A σ H env Dn R S p => p F m σ H R Stp.refl S
theorem ss_drop (h : SimE K ca W te a) : SimS K ca W (tDrop te) (sDrop a) := fun F m A σ H env Dn R S p => ofE_bind h R S p fun F1 m1 A1 H1 x d R1 g1 S1 rx p1 => p1 F1 m1 σ H1 R1 Stp.refl S1
theorem ss_ret (h : SimE K ca W te a) : SimS K ca W (tRet te) (sRet a) := fun F m A σ H env Dn R S p => ofE_bind h R S p fun F1 m1 A1 H1 x d R1 g1 S1 rx p1 => p1 x F1 m1 H1 R1 Stp.refl rx
theorem ss_if (ht : SimT K ca W t ft) (h1 : SimS K ca W s1 f1) (h2 : SimS K ca W s2 f2) : SimS K ca W (tIfS t s1 s2) (sIf ft f1 f2) := fun F m A σ H env Dn R S p => ofT_bind ht R S p fun F1 m1 A1 H1 c R1 g1 S1 p1 => by
  cases c with
  | true => exact h1 F1 m1 A1 σ H1 env Dn R1 S1 p1
  | false => exact h2 F1 m1 A1 σ H1 env Dn R1 S1 p1
theorem ss_set (h : SimE K ca W te a) : SimS K ca W (tAsg te (gName i)) (sSet i a) := fun F m A σ H env Dn R S p => ofE_bind h R S p fun F1 m1 A1 H1 x d R1 g1 S1 rx p1 => p1 F1 m1 _ H1 R1 Stp.refl (S1.set rx)
/-- targets: slots js alone change -/
def SimG (K : PySem.W.Frag) (ca : CaT) (g : TG) (f : G) (js : List Nat) : Prop := ∀ F m A σ H env v d env', Rl K ca F m A H → Slt K ca F m σ env → Rep K ca F m v d → f d env A = some env' → ∀ Q : L2.St → Hp → Prop,
  (∀ σ', Slt K ca F m σ' env' → σ'.length = σ.length → (∀ i : Nat, i ∉ js → σ'[i]? = σ[i]?) → Q σ' H) → g v σ H Q
def SimGs (K : PySem.W.Frag) (ca : CaT) (g : TGs) (f : List G) (js : List Nat) : Prop := ∀ F m A σ H env vs ds env', Rl K ca F m A H → Slt K ca F m σ env → RepL K ca F m vs ds → gAll f ds env A = some env' → ∀ Q : L2.St → Hp → Prop,
  (∀ σ', Slt K ca F m σ' env' → σ'.length = σ.length → (∀ i : Nat, i ∉ js → σ'[i]? = σ[i]?) → Q σ' H) → g vs σ H Q
theorem sg_name : SimG K ca (gName i) (gN i) [i] := fun F m A σ H env v d env' R S r h Q k => by
  cases h
  exact k _ (S.set r) (by simp) fun j hj => by rw [List.getElem?_set_ne (by intro z; exact hj (by simp [z]))]
theorem sgs_nil : SimGs K ca gNil [] [] := fun F m A σ H env vs ds env' R S r h Q k => by
  cases r with
  | nil => cases h; exact ⟨rfl, k σ S rfl fun _ _ => rfl⟩
  | cons _ _ => cases h
theorem sgs_cons {g : TG} {gs : TGs} {f : G} {fs : List G} {js ks : List Nat} (h : SimG K ca g f js) (hs : SimGs K ca gs fs ks) : SimGs K ca (gCons g gs) (f :: fs) (js ++ ks) := fun F m A σ H env vs ds env' R S r e Q k => by
  cases r with
  | nil => cases e
  | cons r1 r2 =>
    rename_i v vs d ds
    unfold gAll at e
    cases q : f d env A with
    | none => rw [q] at e; cases e
    | some env1 =>
      rw [q] at e
      refine ⟨v, vs, rfl, h F m A σ H env v d env1 R S r1 q _ fun σ1 S1 l1 k1 => hs F m A σ1 H env1 vs ds env' R S1 r2 e Q fun σ2 S2 l2 k2 => k σ2 S2 (l2.trans l1) fun i hi => ?_⟩
      rw [k2 i (fun z => hi (List.mem_append_right _ z)), k1 i (fun z => hi (List.mem_append_left _ z))]
theorem gAll_len : ∀ {fs : List G} {ds : List D} {env env' : Sl} {A : Hs}, gAll fs ds env A = some env' → ds.length = fs.length
  | [], [], _, _, _, _ => rfl
  | g :: gs, d :: ds, env, env', A, h => by
    unfold gAll at h
    cases q : g d env A with
    | none => rw [q] at h; cases h
    | some e => rw [q] at h; rw [List.length_cons, List.length_cons, gAll_len h]
  | [], _ :: _, _, _, _, h => by cases h
  | _ :: _, [], _, _, _, h => by cases h
theorem sg_tup {gs : TGs} {fs : List G} {js : List Nat} {n : Nat} (h : SimGs K ca gs fs js) (hn : fs.length = n) : SimG K ca (gTup K n gs) (gT fs) js := fun F m A σ H env v d env' R S r e Q k => by
  cases r with
  | tup s p =>
    have e' : gAll fs _ env A = some env' := e
    exact ⟨_, _, rfl, .inl (.inl (R.fh _ _ s)), by rw [p.length, gAll_len e', hn], h F m A σ H env _ _ env' R S p e' Q k⟩
  | _ => cases e
theorem ss_asg {g : TG} {gf : G} {js : List Nat} (h : SimE K ca W te a) (hg : SimG K ca g gf js) : SimS K ca W (tAsg te g) (sAsg a gf) := fun F m A σ H env Dn R S p => ofE_bind h R S p fun F1 m1 A1 H1 x d R1 g1 S1 rx p1 => by
  cases q : gf d env A1 with
  | none => simp only [q] at p1; exact p1.elim
  | some env' =>
    simp only [q] at p1
    exact hg F1 m1 A1 σ H1 env x d env' R1 S1 rx q _ fun σ' S' _ _ => p1 F1 m1 σ' H1 R1 Stp.refl S'
theorem ss_fl {f : String} {f' : Str} {tv : TE} (hf : f' = fS f) (kc : NoF K ca cs f') (ho : SimE K ca W ta a) (hv : SimE K ca W tv b) : SimS K ca W (sFld K ta tv f') (sFl cs f a b) := fun F m A σ H env Dn R S p =>
  ofE_bind hv R S p fun F1 m1 A1 H1 y dy R1 g1 S1 ry p1 => ofE_bind ho R1 S1 p1 fun F2 m2 A2 H2 x dx R2 g2 S2 rx p2 => by
    cases q : setFld cs A2 dx f dy with
    | none => simp only [q] at p2; exact p2.elim
    | some A3 =>
      simp only [q] at p2
      obtain ⟨a, C, dxx, kvs, _, e, h1, h2, h3, h4, R3, g3⟩ := setFld_at hf R2 rx (ry.mono g2.ff g2.mm) kc q
      exact ⟨a, ca C, dxx, kvs, e, h1, h2, h3, by omega, p2 F2 m2 σ _ R3 g3 S2⟩
theorem ss_raise {C : String} {Ca : Addr} (h : ca C = Ca) : SimS K ca W (tRaise W Ca) (sRaise C) := fun F m A σ H env Dn R S p => by
  subst h; exact p F m σ H R Stp.refl S
/-! ### loops -/
/-- what is walked -/
def PoW (K : PySem.W.Frag) (ca : CaT) (F : Hp) (m : List Addr) (H : Hp) (W : WX) (σ : L2.St) (R : It → Hp → Prop) : RE Wk → Prop
  | .ok k A' => ∀ J F' m' H', Rl K ca F' m' A' H' → Stp F m H F' m' H' → (∃ (G : Hp → Prop) (Y : Nat → Hp → V → Hp → Prop), Walk J k.ds.length G Y ∧
      (∀ F2 m2 A2 H2, k.gd A2 → Rl K ca F2 m2 A2 H2 → Stp F' m' H' F2 m2 H2 → G H2) ∧
      ∀ i d x F2 m2 A2 H2 H3, k.ds[i]? = some d → k.gd A2 → Rl K ca F2 m2 A2 H2 → Stp F' m' H' F2 m2 H2 → Y i H2 x H3 → (H3 = H2 ∧ Rep K ca F2 m2 x d) ∨ (∃ T vs l, d = .tup l ∧ x = .ref T ∧ H2 T = none ∧ H3 = upd H2 T (.tup vs) ∧ RepL K ca F2 m2 vs l) ∨ (∃ T vs l, d = .tup l ∧ x = .ref T ∧ H2 T = some (.tup vs) ∧ H3 = H2 ∧ RepL K ca F2 m2 vs l) ∨ (∃ F3, Rl K ca F3 m2 A2 H3 ∧ Stp F2 m2 H2 F3 m2 H3 ∧ Rep K ca F3 m2 x d)) → R J H'
  | .exc C A' => ∀ F' m' H', Rl K ca F' m' A' H' → Stp F m H F' m' H' → W (.ref (ca C)) none σ H'
  | .stuck => False
def SimI (K : PySem.W.Frag) (ca : CaT) (W : WX) (wi : TI) (f : Sl → Hs → RE Wk) : Prop := ∀ F m A σ H env R, Rl K ca F m A H → Slt K ca F m σ env → PoW K ca F m H W σ R (f env A) → wi σ H R
theorem ss_for {wi : TI} {w : Sl → Hs → RE Wk} {g : TG} {gf : G} {js : List Nat} (hi : SimI K ca W wi w) (hg : SimG K ca g gf js) (h : SimS K ca W s f) : SimS K ca W (tFor wi g s) (sFor w gf f) := fun F m A σ H env Dn R S p => by
  refine hi F m A σ H env _ R S ?_
  unfold sFor at p
  cases q : w env A with
  | stuck => rw [q] at p; exact p
  | exc C A1 => rw [q] at p; exact fun F1 m1 H1 R1 g1 => p F1 m1 σ H1 R1 g1 (S.stp g1)
  | ok k A1 =>
    rw [q] at p
    rintro J F1 m1 H1 R1 g1 ⟨G, Y, wk, hG, hY⟩
    refine for_it wk (fun i σ' H' => ∃ F' m' A' env', Rl K ca F' m' A' H' ∧ Slt K ca F' m' σ' env' ∧ Stp F1 m1 H1 F' m' H' ∧ PoS K ca F' m' H' W Dn (forL gf f k.gd (k.ds.drop i) env' A')) ⟨F1, m1, A1, env, R1, S.stp g1, Stp.refl, PoS.stp p g1⟩ ?_ ?_ ?_
    · rintro i σ' H' hi ⟨F', m', A', env', R', S', g', p'⟩
      refine hG F' m' A' H' ?_ R' g'
      cases z : k.ds.drop i with
      | nil => rw [z] at p'; unfold forL at p'; split at p'; assumption; exact p'.elim
      | cons d ds => rw [z] at p'; unfold forL at p'; split at p'; assumption; exact p'.elim
    · rintro i x σ2 H2 H3 hlt ⟨F2, m2, A2, env2, R2, S2, g2, p2⟩ y
      rw [List.drop_eq_getElem_cons hlt] at p2
      have gd2 : k.gd A2 := by
        by_cases z : k.gd A2
        · exact z
        · unfold forL at p2; rw [if_neg z] at p2; exact p2.elim
      have st3 : ∃ F3, Rl K ca F3 m2 A2 H3 ∧ Stp F2 m2 H2 F3 m2 H3 ∧ Rep K ca F3 m2 x k.ds[i] := by
        rcases hY i k.ds[i] x F2 m2 A2 H2 H3 (by simp [hlt]) gd2 R2 g2 y with ⟨e, rp⟩ | ⟨T, vs, l, q1, q2, q3, q4, q5⟩ | ⟨T, vs, l, q1, q2, q3, q4, q5⟩ | w3
        · subst e; exact ⟨F2, R2, Stp.refl, rp⟩
        · subst q4
          rw [q1, q2]
          obtain ⟨R3, g3⟩ := R2.new (u := .tup vs) q3
          exact ⟨_, R3, g3, .tup upd_same (q5.mono g3.ff g3.mm)⟩
        · subst q4
          rw [q1, q2]
          obtain ⟨F3, R3, g3, hT⟩ := R2.catch q3
          exact ⟨F3, R3, g3, .tup hT (q5.mono g3.ff g3.mm)⟩
        · exact w3
      obtain ⟨F3, R3, g3, rp⟩ := st3
      have p3 := PoS.stp p2 g3
      unfold forL at p3
      rw [if_pos gd2] at p3
      cases z : gf k.ds[i] env2 A2 with
      | none => rw [z] at p3; exact p3.elim
      | some env3 =>
        rw [z] at p3
        refine hg F3 m2 A2 σ2 H3 env2 x k.ds[i] env3 R3 (S2.stp g3) rp z _ fun σ3 S3 _ _ => ?_
        refine h F3 m2 A2 σ3 H3 env3 _ R3 S3 ?_
        cases y : f env3 A2 with
        | nx e A4 => simp only [y] at p3; exact fun F4 m4 σ4 H4 R4 g4 S4 => ⟨F4, m4, A4, e, R4, S4, (g2.trans g3).trans g4, PoS.stp p3 g4⟩
        | ct e A4 => simp only [y] at p3; exact fun F4 m4 σ4 H4 R4 g4 S4 => ⟨F4, m4, A4, e, R4, S4, (g2.trans g3).trans g4, PoS.stp p3 g4⟩
        | bk e A4 => simp only [y] at p3; exact p3
        | rt d A4 => simp only [y] at p3; exact p3
        | exc C e A4 => simp only [y] at p3; exact p3
        | stuck => simp only [y] at p3; exact p3
    · rintro σ' H' ⟨F', m', A', env', R', S', g', p'⟩
      rw [List.drop_length] at p'
      unfold forL at p'
      split at p'
      · exact p' F' m' σ' H' R' Stp.refl S'
      · exact p'.elim
end
end SM

/-! ## comprehensions, new instances, methods, defs -/
namespace SM
open PySem L2
open DL (Ex ExK)
section
variable {K : PySem.W.Frag} {ca : CaT} {F F1 F2 H H1 H2 : Hp} {m m1 m2 : List Addr} {A A1 A2 : Hs} {σ : L2.St} {env : Sl} {W : WX}
variable {ta tb tc te : TE} {a b c : E} {i : Nat} {d : D} {t u : TT} {ft fu : Tt} {ts : TA} {as : As} {x : V} {dx : D} {C : String} {fs : List (String × D)} {cs : List String}
theorem Slt.wiped (S : Slt K ca F m σ env) : ∀ vs : List Nat, Slt K ca F m (L2.wipe σ vs) (wipeS env vs)
  | [] => S
  | v :: vs => (Slt.wiped S vs).unset
theorem wipe_same {σ : L2.St} {σ2 : L2.St} {vs js : List Nat} (hj : ∀ j ∈ js, j ∈ vs) (l4 : σ2.length = (L2.wipe σ vs).length) (q4 : ∀ i : Nat, i ∉ js → σ2[i]? = (L2.wipe σ vs)[i]?) : L2.wipe σ2 vs = L2.wipe σ vs := by
  have len : ∀ (a : L2.St) (us : List Nat), (L2.wipe a us).length = a.length := fun a us => wipe_length a us
  have inn : ∀ (a : L2.St) (us : List Nat) (n : Nat), n ∈ us → n < a.length → (L2.wipe a us)[n]? = some none := fun a us => by
    induction us with
    | nil => intro n h _; simp at h
    | cons v us ih =>
      intro n h hl
      unfold L2.wipe
      by_cases z : v = n
      · subst z; rw [List.getElem?_set_self (by rw [len]; exact hl)]
      · rw [List.getElem?_set_ne z]
        exact ih n (by simp only [List.mem_cons] at h; rcases h with h | h; exact absurd h.symm z; exact h) hl
  apply List.ext_getElem?
  intro n
  by_cases z : n ∈ vs
  · by_cases hl : n < σ.length
    · rw [inn σ2 vs n z (by rw [l4, len]; exact hl), inn σ vs n z hl]
    · rw [List.getElem?_eq_none (by rw [len, l4, len]; omega), List.getElem?_eq_none (by rw [len]; omega)]
  · rw [DL.wipe_out z, q4 n (fun y => z (hj n y)), DL.wipe_out z]
theorem se_lc {wi : TI} {w : Sl → Hs → RE Wk} {g : TG} {gf : G} {js vs : List Nat} {W2 : WX} (hi : SimI K ca W wi w) (hg : SimG K ca g gf js) (hj : ∀ j ∈ js, j ∈ vs) (ht : SimT K ca W2 t ft) (ha : SimE K ca W2 ta a) : SimE K ca W (tLc wi g t ta vs) (eLc w gf ft a vs) := fun F m A σ H env Q R S p => by
  refine hi F m A σ H env _ R S ?_
  unfold eLc at p
  cases q : w env A with
  | stuck => rw [q] at p; exact p
  | exc C A1 => rw [q] at p; exact p
  | ok k A1 =>
    rw [q] at p
    rintro J F1 m1 H1 R1 g1 ⟨G, Y, wk, hG, hY⟩ Dl hD
    have p := Po.stp (r := match lcL gf ft a k.gd (wipeS env vs) k.ds [] A1 with
      | .ok l A2 => alloc A2 (.lst l)
      | _ => .stuck) p g1
    obtain ⟨R2, g2⟩ := R1.newH (u := .lst []) hD
    -- the plain run from turn i
    let run := fun (i : Nat) (acc : List D) (A' : Hs) => match lcL gf ft a k.gd (wipeS env vs) (k.ds.drop i) acc A' with
      | .ok l A2 => alloc A2 (.lst l)
      | _ => RE.stuck
    refine lc_it wk (fun i H' => ∃ F' m' A' acc ws, Rl K ca F' m' A' H' ∧ Stp F1 m1 H1 F' m' H' ∧ H' Dl = some (.lst ws) ∧ Dl ∉ m' ∧ F' Dl = none ∧ RepL K ca F' m' ws acc ∧ Po K ca (Rep K ca) F1 m1 H1 W σ Q (run i acc A')) ?_ ?_ ?_ ?_
    · exact ⟨F1, m1, A1, [], [], R2, g2, upd_same, R1.out hD, R1.fh.back hD, .nil, p⟩
    · rintro i H' hi ⟨F', m', A', acc, ws, R', g', d1, d2, d3, rs, p'⟩
      refine hG F' m' A' H' ?_ R' g'
      show k.gd A'
      dsimp only [run] at p'
      cases z : k.ds.drop i with
      | nil =>
        rw [z] at p'; unfold lcL at p'
        by_cases y : k.gd A'
        · exact y
        · rw [if_neg y] at p'; exact p'.elim
      | cons d ds =>
        rw [z] at p'; unfold lcL at p'
        by_cases y : k.gd A'
        · exact y
        · rw [if_neg y] at p'; exact p'.elim
    · rintro i x H2 H3 hlt ⟨F2, m2, A2, acc, ws, R2, g2, d1, d2, d3, rs, p2⟩ y
      have gd2 : k.gd A2 := by
        dsimp only [run] at p2
        rw [List.drop_eq_getElem_cons hlt] at p2
        by_cases z : k.gd A2
        · exact z
        · unfold lcL at p2; rw [if_neg z] at p2; exact p2.elim
      have st3 : ∃ F3, Rl K ca F3 m2 A2 H3 ∧ Stp F2 m2 H2 F3 m2 H3 ∧ Rep K ca F3 m2 x k.ds[i] ∧ H3 Dl = some (.lst ws) ∧ F3 Dl = none := by
        rcases hY i k.ds[i] x F2 m2 A2 H2 H3 (by simp [hlt]) gd2 R2 g2 y with ⟨e, rp⟩ | ⟨T, us, l, q1, q2, q3, q4, q5⟩ | ⟨T, us, l, q1, q2, q3, q4, q5⟩ | ⟨F3, R3, g3, rp⟩
        · subst e; exact ⟨F2, R2, Stp.refl, rp, d1, d3⟩
        · subst q4
          rw [q1, q2]
          obtain ⟨R3, g3⟩ := R2.new (u := .tup us) q3
          have nT : Dl ≠ T := fun z => by rw [← z, d1] at q3; cases q3
          exact ⟨_, R3, g3, .tup upd_same (q5.mono g3.ff g3.mm), by rw [upd_ne nT]; exact d1, by rw [upd_ne nT]; exact d3⟩
        · subst q4
          rw [q1, q2]
          obtain ⟨F3, R3, g3, hT⟩ := R2.catch q3
          refine ⟨F3, R3, g3, .tup hT (q5.mono g3.ff g3.mm), d1, ?_⟩
          cases w : F3 Dl with
          | none => rfl
          | some v => have := R3.fh Dl v w; rw [d1] at this; cases this; exact (g3.gn Dl (by rw [w]; simp)).elim (fun z => absurd d3 z) fun z => z.elim (fun z => (z.no d1 trivial).elim) fun ⟨xs, z⟩ => by rw [w] at z; cases z
        · have d1' : H3 Dl = some (.lst ws) := g3.kp Dl _ d1 d2 (fun ps z => by cases z)
          refine ⟨F3, R3, g3, rp, d1', ?_⟩
          cases w : F3 Dl with
          | none => rfl
          | some v => have := R3.fh Dl v w; rw [d1'] at this; cases this; exact (g3.gn Dl (by rw [w]; simp)).elim (fun z => absurd d3 z) fun z => z.elim (fun z => (z.no d1 trivial).elim) fun ⟨xs, z⟩ => by rw [w] at z; cases z
      obtain ⟨F3, R3, g3, rp, e1, e3⟩ := st3
      have rs3 := rs.mono g3.ff g3.mm
      have p3 := p2
      dsimp only [run] at p3
      rw [List.drop_eq_getElem_cons hlt] at p3
      unfold lcL at p3
      by_cases gd : k.gd A2
      · rw [if_pos gd] at p3
        cases z : gf k.ds[i] (wipeS env vs) A2 with
        | none => rw [z] at p3; exact p3.elim
        | some env3 =>
          rw [z] at p3
          have S3 := (((S.stp g1).stp g2).stp g3).wiped vs
          refine hg F3 m2 A2 (L2.wipe σ vs) H3 _ x k.ds[i] env3 R3 S3 rp z _ fun σ3 S4 l4 k4 => ?_
          refine ⟨wipe_same hj l4 k4, ?_⟩
          -- what a step keeps of the new list
          have keep : ∀ {F' m' A' H'}, Rl K ca F' m' A' H' → Stp F3 m2 H3 F' m' H' → H' Dl = some (.lst ws) ∧ Dl ∉ m' ∧ F' Dl = none := fun R' g' => by
            have h1 := g'.kp Dl _ e1 d2 (by intro _ z; cases z)
            refine ⟨h1, fun z => ?_, ?_⟩
            · rcases g'.gm Dl z with y | y
              · exact d2 y
              · exact y.no e1 trivial
            · rename_i F' m' A' H'
              cases w : F' Dl with
              | none => rfl
              | some v =>
                rcases g'.gn Dl (by rw [w]; simp) with y | y | ⟨xs, y⟩
                · exact absurd e3 y
                · exact (y.no e1 trivial).elim
                · have := R'.fh Dl _ y
                  rw [h1] at this; cases this
          refine ht F3 m2 A2 σ3 H3 env3 _ R3 S4 ?_
          cases y : ft env3 A2 with
          | stuck => simp only [y] at p3; exact p3.elim
          | exc C A4 => simp only [y] at p3; exact p3.elim
          | ok bb A4 =>
            intro v F4 m4 H4 R4 g4 ev
            cases (show v = bb from ev)
            cases bb with
            | false =>
              simp only [y] at p3
              obtain ⟨f1, f2, f3⟩ := keep R4 g4
              exact ⟨F4, m4, A4, acc, ws, R4, (g2.trans g3).trans g4, f1, f2, f3, rs3.mono g4.ff g4.mm, p3⟩
            | true =>
              simp only [y] at p3
              have p4 := p3
              refine ha F4 m4 A4 σ3 H4 env3 _ R4 (S4.stp g4) ?_
              cases y2 : a env3 A4 with
              | stuck => simp only [y2] at p4; exact p4.elim
              | exc C A5 => simp only [y2] at p4; exact p4.elim
              | ok dz A5 =>
                simp only [y2] at p4
                by_cases hl : acc.length < sizeLine
                · rw [if_pos hl] at p4
                  intro v F5 m5 H5 R5 g5 rv
                  obtain ⟨f1, f2, f3⟩ := keep R5 (g4.trans g5)
                  refine ⟨ws, f1, by rw [rs.length]; exact hl, ?_⟩
                  have rs5 := rs3.mono (g4.trans g5).ff (g4.trans g5).mm
                  -- the new list grows
                  have ne : ∀ a, a ∈ m5 → a ≠ Dl := fun a ha z => f2 (by rw [← z]; exact ha)
                  have R6 : Rl K ca F5 m5 A5 (upd H5 Dl (.lst (ws ++ [v]))) := ⟨R5.fh.right f3, R5.len, R5.nd, R5.fr, fun j o b h1 h2 => (R5.ob j o b h1 h2).mono (Ex.refl _) (Pre.refl _) fun w hw => by
                    rw [upd_ne (ne b (List.mem_of_getElem? h2))]; exact hw, tabs_upd R5.tb f1 trivial, R5.ft⟩
                  have nD0 : H1 Dl = none := hD
                  have gA : Stp F1 m1 H1 F5 m5 H5 := ((g2.trans g3).trans g4).trans g5
                  have gB : Stp F1 m1 H1 F5 m5 (upd H5 Dl (.lst (ws ++ [v]))) := ⟨gA.ff, gA.mm, fun b w h n nt => by
                      rw [upd_ne fun z => by rw [z, nD0] at h; cases h]; exact gA.kp b w h n nt, gA.gn, gA.gm, fun b h => by
                      by_cases w : b = Dl
                      · rw [w]; exact .none nD0
                      · exact gA.th b (h.back fun u hu => by rw [upd_ne w]; exact hu), fun b od w h => by
                      rw [upd_ne fun z => by rw [z, nD0] at h; cases h]; exact gA.fz b od w h⟩
                  refine ⟨F5, m5, A5, acc ++ [dz], ws ++ [v], R6, gB, upd_same, f2, f3, rs5.append (.cons rv .nil), p4⟩
                · rw [if_neg hl] at p4; exact p4.elim
      · rw [if_neg gd] at p3; exact p3.elim
    · rintro H' ⟨F', m', A', acc, ws, R', g', d1, d2, d3, rs, p'⟩
      dsimp only [run] at p'
      rw [List.drop_length] at p'
      unfold lcL at p'
      by_cases gd : k.gd A'
      · rw [if_pos gd] at p'
        have R2 := R'.take (o := .lst acc) d2 d3 ⟨ws, d1, rs.mono (Ex.refl _) ⟨_, rfl⟩⟩
        refine p' (.ref Dl) F' (m' ++ [Dl]) H' R2 ⟨g'.ff, g'.mm.trans ⟨_, rfl⟩, g'.kp, g'.gn, fun b h => ?_, g'.th, g'.fz⟩ (.ref (by rw [List.getElem?_append_right (by rw [R'.len]; exact Nat.le_refl _), R'.len]; simp))
        rcases List.mem_append.mp h with z | z
        · exact g'.gm b z
        · rw [List.mem_singleton] at z; rw [z]; exact .inr (.none hD)
      · rw [if_neg gd] at p'; exact p'.elim

/-! ### new instances -/
theorem make_sim {f : Fn} {vs : List V} {ds : List D} {Q : VK} {X : XK} {x dx : Addr} (R1 : Rl K ca F m A H) (rs : RepL K ca F m vs ds) (hx : H x = none) (hdx : H dx = none) (hne : dx ≠ x) (p : PoF K ca F m H Q X (make C f ds A)) :
    SpF K ca f (.ref x :: vs) (upd (upd H dx (.own x)) x (.ins (ca C) dx [])) (fun v H2 => v = .non ∧ Q (.ref x) H2) X := by
  obtain ⟨R2, g2⟩ := R1.newH (u := .own x) hdx
  have hx2 : (upd H dx (.own x)) x = none := by rw [upd_ne (Ne.symm hne)]; exact hx
  obtain ⟨R3, g3, r3⟩ := R2.alloc (u := .ins (ca C) dx []) (o := .obj C []) hx2 ⟨dx, [], upd_same, .nil⟩
  have g := g2.trans g3
  refine ⟨F, m ++ [x], A ++ [.obj C []], .ref A.length :: ds, R3, .cons r3 (rs.mono g.ff g.mm), ?_⟩
  unfold make at p
  cases q : f (.ref A.length :: ds) (A ++ [.obj C []]) with
  | stuck => rw [q] at p; exact p
  | exc Ce A2 => rw [q] at p; exact fun F' m' H' R' g' => p F' m' H' R' (g.trans g')
  | ok d A2 =>
    rw [q] at p
    intro v F' m' H' R' g' rv
    cases rv with
    | non => exact ⟨rfl, p (.ref x) F' m' H' R' (g.trans g') (r3.mono g'.ff g'.mm)⟩
    | _ => exact p.elim
theorem se_make0 {f : Fn} {X : XK} (hs : SimA K ca W ts as) : SimE K ca W (tMake (ca C) (SpF K ca f) [] X ts) (eMake0 C f as) := fun F m A σ H env Q R S p =>
  hs.bind R S p fun F1 m1 A1 H1 xs ds R1 g1 S1 rs p1 => fun x dx hx hdx hne => by
    rw [List.append_nil]
    exact make_sim R1 rs hx hdx hne (pof_noX p1)

/-! ### methods, by the classes at hand -/
theorem methX_sim {f : Fn} {mm : String} {mm' : Str} {Q : VK} {X : XK} (hf : mm' = fS mm) (R : Rl K ca F m A H) (S : Slt K ca F m σ env) (hs : SimA K ca W ts as) (rx : Rep K ca F m x dx) {fs : List (String × D)} (ho : objAt A dx = some (C, fs)) (hn : fs.lookup mm = none)
    {k : RE D → RE D} (hk : ∀ {F1 m1 H1 r}, Po K ca (Rep K ca) F1 m1 H1 W σ Q (k r) → PoF K ca F1 m1 H1 Q X r)
    (p : Po K ca (Rep K ca) F m H W σ Q ((as env A).bind fun ds A2 => k (f (dx :: ds) A2))) : ∃ a dxx kvs, x = .ref a ∧ H a = some (.ins (ca C) dxx kvs) ∧ kvs.lookup mm' = none ∧ ts σ H fun vs H2 => SpF K ca f (x :: vs) H2 Q X := by
  obtain ⟨i, a, dxx, kvs, e1, e2, h1, h2, h3, h4⟩ := obj_at R rx ho
  refine ⟨a, dxx, kvs, e2, h3, by rw [hf]; exact (fS_look (f := mm) h4).2 hn, ?_⟩
  exact hs.bind R S p fun F1 m1 A1 H1 xs ds R1 g1 S1 rs p1 => ⟨F1, m1, A1, dx :: ds, R1, .cons (rx.mono g1.ff g1.mm) rs, hk p1⟩
theorem methOf_one {mm : String} {C : String} {f f' : Fn} {A : Hs} {x : D} (q : methOf mm [(C, f)] A x = some f') : f' = f ∧ ∃ fs, objAt A x = some (C, fs) ∧ fs.lookup mm = none := by
  unfold methOf at q
  cases z : objAt A x with
  | none => rw [z] at q; cases q
  | some w =>
    obtain ⟨C', fs⟩ := w
    rw [z] at q
    simp only at q
    split at q
    · cases q
    · rename_i hn
      rw [List.lookup_cons] at q
      cases y : (C' == C) with
      | false => rw [y] at q; cases q
      | true =>
        rw [y] at q
        cases q
        have e := eq_of_beq y
        subst e
        exact ⟨rfl, fs, rfl, by cases w : fs.lookup mm with
          | none => rfl
          | some _ => rw [w] at hn; exact absurd rfl hn⟩
theorem meth_one {mm : String} {mm' : Str} {f : Fn} (hf : mm' = fS mm) (ho : SimE K ca W ta a) (hs : SimA K ca W ts as) : SimE K ca W (tMethX (ca C) mm' (SpF K ca f) (WE W) ta ts) (eMeth mm [(C, f)] a as) := fun F m A σ H env Q R S p =>
  ho.bind R S p fun F1 m1 A1 H1 x dx R1 g1 S1 rx p1 => by
    cases q : methOf mm [(C, f)] A1 dx with
    | none => simp only [q] at p1; exact p1.elim
    | some f' =>
      simp only [q] at p1
      obtain ⟨rfl, fs, z, hn⟩ := methOf_one q
      exact methX_sim (k := fun r => r) hf R1 S1 hs rx z hn pof_po p1
end

/-! ### defs -/
section
variable {P : Program} {w : World} {K : PySem.W.Frag} {ca : CaT} {mg : Str → Option Value} {base : Heap} {x qn : Str} {st : Stmt} {fa : Addr} {fd : FuncData} {N ps : List Str} {k : Nat}
theorem spF_len {n mm : Nat} {b : S} {vs : List V} {H : Hp} {Q : VK} {E : XK} (h : SpF K ca (mkFn n mm b) vs H Q E) : vs.length = n := by
  obtain ⟨F, m, A, ds, R, rs, p⟩ := h
  rw [rs.length]
  unfold mkFn at p
  split at p
  · assumption
  · exact p.elim
theorem run_SpF {n : Nat} {b : S} {t : TS} {vs : List V} {H : Hp} {Q : VK} {E : XK} (h : SpF K ca (mkFn n N.length b) vs H Q E) (hb : SimS K ca (fun cls d _ H => E cls d H) t b) : t { nx := fun _ H' => Q .non H', rt := Q } (L2.start N vs) H := by
  have hl := spF_len h
  obtain ⟨F, m, A, ds, R, rs, p⟩ := h
  have hn : ds.length = n := by rw [← rs.length, hl]
  unfold mkFn at p
  rw [if_pos hn] at p
  have S : Slt K ca F m (L2.start N vs) (ds.map some ++ List.replicate (N.length - n) none) := by
    refine ⟨by unfold L2.start; simp [hl, hn], fun i d h => ?_⟩
    by_cases hi : i < ds.length
    · rw [List.getElem?_append_left (by simpa using hi), List.getElem?_map] at h
      cases z : ds[i]? with
      | none => rw [z] at h; cases h
      | some d' =>
        rw [z] at h; cases h
        obtain ⟨v, h1, h2⟩ := rs.get z
        refine ⟨v, ?_, h2⟩
        unfold L2.start
        have hv : i < vs.length := (List.getElem?_eq_some_iff.mp h1).1
        rw [List.getElem?_append_left (by simpa using hv), List.getElem?_map, h1]; rfl
    · rw [List.getElem?_append_right (by simpa using Nat.le_of_not_lt hi)] at h
      obtain ⟨h1, h2⟩ := List.getElem?_eq_some_iff.mp h
      rw [List.getElem_replicate] at h2
      cases h2
  refine hb F m A _ H _ _ R S ?_
  cases q : b (ds.map some ++ List.replicate (N.length - n) none) A with
  | nx e A' => rw [q] at p; exact fun F' m' σ' H' R' g' S' => p .non F' m' H' R' g' .non
  | rt d A' => rw [q] at p; exact p
  | exc C e A' => rw [q] at p; exact fun F' m' σ' H' R' g' S' => p F' m' H' R' g'
  | bk e A' => rw [q] at p; exact p.elim
  | ct e A' => rw [q] at p; exact p.elim
  | stuck => rw [q] at p; exact p.elim
/-- a def that may raise -/
theorem Fn.ofF {n : Nat} {b : S} (F : Fun K x qn st fa fd) (S : FnScope N ps (defScope st)) (hn : ps.length = n)
    (body : ∀ (cdv : Value) (A : Around) (outer : List PySem.Env) (s : Shared) (H : Hp) (E : XK), Room k (A.deeper (PyProof.Rows.envOfC qn (defScope st) s.heap.objs.size fa cdv)) →
      ∃ t, PSs (cxOf (L2.CX P w) P w K mg base N qn (defScope st) fa cdv A outer s H E) (defBody st) t ∧ SimS K ca (fun cls d _ H => E cls d H) t b) : FnOk P w K mg base (L2.CX P w) (k + 1) fa fd ps (SpF K ca (mkFn n N.length b)) :=
  F.okX S (fun vs H Q E h => by rw [hn]; exact spF_len h) fun cdv A outer s H vs Q E hr h => by
    obtain ⟨t, h1, h2⟩ := body cdv A outer s H E hr
    exact ⟨t, h1, run_SpF h h2⟩
end
/-! ### methods by name -/
structure Mt (P : Program) (w : World) (K : PySem.W.Frag) (mg : Str → Option Value) (base : Heap) (k : Nat) (C : Addr) (mm : Str) (sp : Sp) : Prop where
  ex : ∃ (f : Addr) (fd : FuncData) (ps : List Str), Meth K C mm f ∧ FnOk P w K mg base (L2.CX P w) k f fd ps sp ∧ Binds K fd ps []
theorem Mt.of {P : Program} {w : World} {K : PySem.W.Frag} {mg : Str → Option Value} {base : Heap} {k : Nat} {C fa : Addr} {mm : Str} {fd : FuncData} {ps : List Str} {sp : Sp} (M : Meth K C mm fa) (h : FnOk P w K mg base (L2.CX P w) k fa fd ps sp) (b : Binds K fd ps []) : Mt P w K mg base k C mm sp := ⟨fa, fd, ps, M, h, b⟩
section
variable {X : Cx} {W : WX} {k j : Nat} {x mm : Str} {C : Addr} {sp : Sp} {p pos apos : Pos} {o e : Expr} {es : List Expr} {t : TA} {ta : TE}
theorem pe_mtX {pl : Sem Bool} (c : Mt X.prog X.w X.K X.mg X.base k C mm sp) (tk : Takes X W) (hr : Room j X.A) (hk : k ≤ j) (cl : Cls X.K C) (he : PE X o ta) (ha : PA X (e :: es) t)
    (hst : starEach (e :: es) X.env = (false, eval e X.env) :: starEach es X.env := by rfl) (hpl : (backTo pos (starEach es X.env)).any (·.1) = false := by rfl)
    (ht : eval (.Call (.Attribute o mm apos) (e :: es) [] pos) X.env = (do
      let ov ← eval o X.env
      standAt apos.atName
      let (f, first) ← holding [ov] (getMethod ov mm pl)
      callWith pos f first (backTo pos (starEach (e :: es) X.env)) (backToKw pos (keywordEach [] X.env))) := by rfl) :
    PE X (.Call (.Attribute o mm apos) (e :: es) [] pos) (tMethX C mm sp (WE W) ta t) := by
  obtain ⟨f, fd, ps, M, F, b⟩ := c.ex
  exact pe_methX he cl M F (hr.mono hk) b (fun σ => passAt tk σ) ha hst hpl ht
open DL (Dx)
end
end SM

/-! ## == and in, of data of any texts -/
namespace L2
open PySem PySem.Spec PyProof.Rows
/-- two lists of different lengths -/
def UnL (H : Hp) (x y : V) : Prop := ∃ a b xs ys, x = .ref a ∧ y = .ref b ∧ H a = some (.lst xs) ∧ H b = some (.lst ys) ∧ xs.length ≠ ys.length
def rEqP (K : PySem.W.Frag) : R2 := fun x y H Q => (∃ d e, Dp K H x d ∧ Dp K H y e ∧ d.plain = true ∧ e.plain = true ∧ d.depth ≤ 60 ∧ Q (.bl (PyData.eqv d e)) H) ∨ (UnL H x y ∧ Q (.bl false) H)
def rNeP (K : PySem.W.Frag) : R2 := fun x y H Q => (∃ d e, Dp K H x d ∧ Dp K H y e ∧ d.plain = true ∧ e.plain = true ∧ d.depth ≤ 60 ∧ Q (.bl (!PyData.eqv d e)) H) ∨ (UnL H x y ∧ Q (.bl true) H)
theorem op_eqP {X : Cx} (hu : X.A.units + 64 < cLine) : OpR X (compareOp .Eq) (rEqP X.K) := by
  intro pins s σ H x y v u Q I rx ry h
  rcases h with ⟨d, e, hd, he, sd, se, dp, q⟩ | ⟨⟨a, b, xs, ys, rfl, rfl, ha, hb, hl⟩, q⟩
  · obtain ⟨as, r1⟩ := Dp.reads I d x v hd rx
    obtain ⟨bs, r2⟩ := Dp.reads I e y u he ry
    exact PySem.SeqAt.eq_plain r1 r2 sd se (by omega) ⟨.bl _, H, I, rfl, q⟩
  · cases (show v = Value.ref a from rx)
    cases (show u = Value.ref b from ry)
    obtain ⟨us, r1, p1, _⟩ := I.list (.inl (.inl ha))
    obtain ⟨ws, r2, p2, _⟩ := I.list (.inl (.inl hb))
    refine PySem.SeqAt.eq_list_lengthsAt p1.isList p2.isList ?_ (by omega) ⟨.bl _, H, I, rfl, q⟩
    rw [List.size_toArray, List.size_toArray, ← r1.length, ← r2.length]
    simpa using hl
theorem op_neP {X : Cx} (hu : X.A.units + 64 < cLine) : OpR X (compareOp .NotEq) (rNeP X.K) := by
  intro pins s σ H x y v u Q I rx ry h
  rcases h with ⟨d, e, hd, he, sd, se, dp, q⟩ | ⟨⟨a, b, xs, ys, rfl, rfl, ha, hb, hl⟩, q⟩
  · obtain ⟨as, r1⟩ := Dp.reads I d x v hd rx
    obtain ⟨bs, r2⟩ := Dp.reads I e y u he ry
    exact PySem.SeqAt.ne_plain r1 r2 sd se (by omega) ⟨.bl _, H, I, rfl, q⟩
  · cases (show v = Value.ref a from rx)
    cases (show u = Value.ref b from ry)
    obtain ⟨us, r1, p1, _⟩ := I.list (.inl (.inl ha))
    obtain ⟨ws, r2, p2, _⟩ := I.list (.inl (.inl hb))
    refine PySem.SeqAt.RcNeAt.lists_lengths p1.isList p2.isList ?_ (by omega) X.prog X.w _ _ ⟨.bl _, H, I, rfl, q⟩
    rw [List.size_toArray, List.size_toArray, ← r1.length, ← r2.length]
    simpa using hl
end L2
namespace SM
open PySem L2
open DL (Ex ExK rAddU rSubU rMulA rDivU rModU rPowU rShlU rShrU rAndU rOrU rXorU rLtU rLeU rGtU rGeU rIsU rNotU)

/-! ### data read as Python's -/
def allSome {α : Type} : List (Option α) → Option (List α)
  | [] => some []
  | some a :: r => (allSome r).map (a :: ·)
  | none :: _ => none
def pyA (A : Hs) : Nat → D → Option PyData
  | _, .non => some .none
  | _, .bl b => some (.bool b)
  | _, .int i => some (.int i)
  | _, .str x => some (.str x)
  | n + 1, .tup l => (allSome (l.map (pyA A n))).map .tuple
  | n + 1, .wt l => (allSome (l.map (pyA A n))).map .tuple
  | n + 1, .scr l => (allSome (l.map (pyA A n))).map .list
  | n + 1, .ref i => match A[i]? with
    | some (.lst l) => (allSome (l.map (pyA A n))).map .list
    | _ => none
  | _, _ => none

/-- two lists of different lengths -/
def unL (A : Hs) (x y : D) : Option Bool := match x, y with
  | .ref i, .ref j => match A[i]?, A[j]? with
    | some (.lst l), some (.lst k) => if l.length = k.length then none else some false
    | _, _ => none
  | _, _ => none
def eqA (A : Hs) (x y : D) : Option Bool := match pyA A 40 x, pyA A 40 y with
  | some p, some q => some (PyData.eqv p q)
  | _, _ => unL A x y
def oB (f : Hs → D → D → Option Bool) (x y : D) (A : Hs) : RE D := match f A x y with
  | some b => .ok (.bl b) A
  | none => .stuck
def oEq : D → D → Hs → RE D := oB eqA
def oNe : D → D → Hs → RE D := oB fun A x y => (eqA A x y).map (!·)
section
variable {K : PySem.W.Frag} {ca : CaT} {F F1 F2 H H1 H2 : Hp} {m m1 m2 : List Addr} {A A1 A2 : Hs} {σ : L2.St} {env : Sl} {W : WX} {Q : VK}
theorem dp_all {n : Nat} (R : Rl K ca F m A H) (ih : ∀ {v : V} {d : D} {p : PyData}, Rep K ca F m v d → pyA A n d = some p → Dp K H v p ∧ p.plain = true ∧ p.depth ≤ n) :
    ∀ {vs : List V} {l : List D} {ps : List PyData}, RepL K ca F m vs l → allSome (l.map (pyA A n)) = some ps → DpAll K H vs ps ∧ PyData.plainAll ps = true ∧ PyData.depthAll ps ≤ n
  | _, _, _, .nil, h => by cases h; exact ⟨.nil, rfl, Nat.zero_le _⟩
  | _, _, _, .cons (d := d) (ds := ds) r rs, h => by
    rw [List.map_cons] at h
    cases q : pyA A n d with
    | none => rw [q] at h; cases h
    | some p =>
      rw [q] at h
      unfold allSome at h
      cases q2 : allSome (ds.map (pyA A n)) with
      | none => rw [q2] at h; cases h
      | some ps =>
        rw [q2] at h
        cases h
        obtain ⟨h1, h2, h3⟩ := ih r q
        obtain ⟨g1, g2, g3⟩ := dp_all R ih rs q2
        exact ⟨.cons h1 g1, by unfold PyData.plainAll; rw [h2, g2]; rfl, by unfold PyData.depthAll; omega⟩
theorem dp_of (R : Rl K ca F m A H) : ∀ {n : Nat} {v : V} {d : D} {p : PyData}, Rep K ca F m v d → pyA A n d = some p → Dp K H v p ∧ p.plain = true ∧ p.depth ≤ n := by
  intro n
  induction n with
  | zero =>
    intro v d p r h
    cases r <;> simp [pyA] at h <;> subst h <;> exact ⟨by constructor, rfl, Nat.zero_le _⟩
  | succ n ih =>
    intro v d p r h
    cases r with
    | non => simp [pyA] at h; subst h; exact ⟨.non, rfl, Nat.zero_le _⟩
    | bl b => simp [pyA] at h; subst h; exact ⟨.bl b, rfl, Nat.zero_le _⟩
    | int i => simp [pyA] at h; subst h; exact ⟨.int i, rfl, Nat.zero_le _⟩
    | str x => simp [pyA] at h; subst h; exact ⟨.str x, rfl, Nat.zero_le _⟩
    | ty n => simp [pyA] at h
    | nm x => simp [pyA] at h
    | exc h' => simp [pyA] at h
    | tup s rs =>
      unfold pyA at h
      cases q : allSome (List.map (pyA A n) _) with
      | none => rw [q] at h; cases h
      | some ps =>
        rw [q] at h; cases h
        obtain ⟨h1, h2, h3⟩ := dp_all R ih rs q
        exact ⟨.tup (.inl (.inl (R.fh _ _ s))) h1, h2, by unfold PyData.depth; omega⟩
    | wt s rs =>
      unfold pyA at h
      cases q : allSome (List.map (pyA A n) _) with
      | none => rw [q] at h; cases h
      | some ps =>
        rw [q] at h; cases h
        obtain ⟨h1, h2, h3⟩ := dp_all R ih rs q
        exact ⟨.tup (R.fh.t s) h1, h2, by unfold PyData.depth; omega⟩
    | scr s rs =>
      unfold pyA at h
      cases q : allSome (List.map (pyA A n) _) with
      | none => rw [q] at h; cases h
      | some ps =>
        rw [q] at h; cases h
        obtain ⟨h1, h2, h3⟩ := dp_all R ih rs q
        exact ⟨.lst (R.fh.l s) h1, h2, by unfold PyData.depth; omega⟩
    | ref hm =>
      rename_i a i
      unfold pyA at h
      cases q0 : A[i]? with
      | none => simp [q0] at h
      | some o =>
        cases o with
        | lst l =>
          simp only [q0] at h
          obtain ⟨a', e, ha, vs, h1, h2⟩ := R.at (v := .ref a) q0 (.ref hm)
          cases e
          cases q : allSome (List.map (pyA A n) l) with
          | none => rw [q] at h; cases h
          | some ps =>
            rw [q] at h; cases h
            obtain ⟨h3, h4, h5⟩ := dp_all R ih h2 q
            exact ⟨.lst (.inl (.inl h1)) h3, h4, by unfold PyData.depth; omega⟩
        | dic _ _ _ => simp [q0] at h
        | obj _ _ => simp [q0] at h
        | nd _ => simp [q0] at h
theorem po_ok {α β : Type} {Rr : Hp → List Addr → β → α → Prop} {Q : β → Hp → Prop} {v : β} {d : α} (R : Rl K ca F m A H) (r : Rr F m v d) (p : Po K ca Rr F m H W σ Q (.ok d A)) : Q v H := p v F m H R Stp.refl r
theorem unL_of {x y : V} {dx dy : D} {b : Bool} (R : Rl K ca F m A H) (rx : Rep K ca F m x dx) (ry : Rep K ca F m y dy) (h : unL A dx dy = some b) : b = false ∧ UnL H x y := by
  unfold unL at h
  split at h
  · rename_i i j
    cases q1 : A[i]? with
    | none => simp [q1] at h
    | some o1 =>
      cases o1 with
      | lst l =>
        cases q2 : A[j]? with
        | none => simp [q1, q2] at h
        | some o2 =>
          cases o2 with
          | lst k =>
            simp only [q1, q2] at h
            split at h
            · cases h
            · rename_i hn
              obtain ⟨a, e, _, vs, h1, h2⟩ := R.at q1 rx
              obtain ⟨a', e', _, vs', h1', h2'⟩ := R.at q2 ry
              refine ⟨(Option.some.inj h).symm, a, a', vs, vs', e, e', h1, h1', ?_⟩
              rw [h2.length, h2'.length]
              exact hn
          | dic _ _ _ => simp [q1, q2] at h
          | obj _ _ => simp [q1, q2] at h
          | nd _ => simp [q1, q2] at h
      | dic _ _ _ => simp [q1] at h
      | obj _ _ => simp [q1] at h
      | nd _ => simp [q1] at h
  · cases h
theorem os_eq : OpS K ca (rEqP K) oEq := fun F m A H x y dx dy W σ Q R rx ry p => by
  unfold oEq oB at p
  cases q : eqA A dx dy with
  | none => rw [q] at p; exact p.elim
  | some b =>
    rw [q] at p
    unfold eqA at q
    split at q
    · rename_i p1 p2 q1 q2
      obtain ⟨a1, a2, a3⟩ := dp_of R rx q1
      obtain ⟨b1, b2, b3⟩ := dp_of R ry q2
      cases q
      exact .inl ⟨p1, p2, a1, b1, a2, b2, by omega, po_ok R (.bl _) p⟩
    · obtain ⟨rfl, u⟩ := unL_of R rx ry q
      exact .inr ⟨u, po_ok R (.bl _) p⟩
theorem os_ne : OpS K ca (rNeP K) oNe := fun F m A H x y dx dy W σ Q R rx ry p => by
  unfold oNe oB at p
  cases q : eqA A dx dy with
  | none => simp only [q, Option.map] at p; exact p.elim
  | some b =>
    simp only [q, Option.map] at p
    unfold eqA at q
    split at q
    · rename_i p1 p2 q1 q2
      obtain ⟨a1, a2, a3⟩ := dp_of R rx q1
      obtain ⟨b1, b2, b3⟩ := dp_of R ry q2
      cases q
      exact .inl ⟨p1, p2, a1, b1, a2, b2, by omega, po_ok R (.bl _) p⟩
    · obtain ⟨rfl, u⟩ := unL_of R rx ry q
      exact .inr ⟨u, po_ok R (.bl _) p⟩

/-! ### operators on ints -/
def oII (f : Int → Int → Option D) (x y : D) (A : Hs) : RE D := match x, y with
  | .int i, .int j => match f i j with
    | some d => .ok d A
    | none => .stuck
  | _, _ => .stuck
theorem os_ii {r : R2} {f : Int → Int → Option D} (h : ∀ i j d, f i j = some d → ∃ z, (∀ F m, Rep K ca F m z d) ∧ ∀ H Q, Q z H → r (.int i) (.int j) H Q) : OpS K ca r (oII f) := fun F m A H x y dx dy W σ Q R rx ry p => by
  cases rx with
  | int i =>
    cases ry with
    | int j =>
      unfold oII at p
      simp only at p
      cases q : f i j with
      | none => rw [q] at p; exact p.elim
      | some d =>
        rw [q] at p
        obtain ⟨z, hz, k⟩ := h i j d q
        exact k H Q (po_ok R (hz F m) p)
    | _ => exact p.elim
  | _ => exact p.elim
def oSub := oII fun i j => some (.int (i - j))
def oDiv := oII fun i j => if 0 < j ∧ j.natAbs.log2 < 9000 then some (.int (i / j)) else none
def oMod := oII fun i j => if 0 < j then some (.int (i % j)) else none
open Classical in
noncomputable def oPow := oII fun i j => if CPow i j then some (.int (i ^ j.toNat)) else none
def oLt := oII fun i j => some (.bl (decide (i < j)))
def oLe := oII fun i j => some (.bl (decide (i ≤ j)))
def oGt := oII fun i j => some (.bl (decide (j < i)))
def oGe := oII fun i j => some (.bl (decide (j ≤ i)))
theorem os_sub : OpS K ca rSubU oSub := os_ii fun i j d h => by cases h; exact ⟨_, fun _ _ => .int _, fun H Q q => ⟨i, j, rfl, rfl, q⟩⟩
theorem os_div : OpS K ca rDivU oDiv := os_ii fun i j d h => by
  split at h
  · rename_i z; cases h; exact ⟨_, fun _ _ => .int _, fun H Q q => ⟨i, j, rfl, rfl, z, q⟩⟩
  · cases h
theorem os_mod : OpS K ca rModU oMod := os_ii fun i j d h => by
  split at h
  · rename_i z; cases h; exact ⟨_, fun _ _ => .int _, fun H Q q => ⟨i, j, rfl, rfl, z, q⟩⟩
  · cases h
theorem os_lt : OpS K ca rLtU oLt := os_ii fun i j d h => by cases h; exact ⟨_, fun _ _ => .bl _, fun H Q q => ⟨i, j, rfl, rfl, q⟩⟩
theorem os_le : OpS K ca rLeU oLe := os_ii fun i j d h => by cases h; exact ⟨_, fun _ _ => .bl _, fun H Q q => ⟨i, j, rfl, rfl, q⟩⟩
theorem os_gt : OpS K ca rGtU oGt := os_ii fun i j d h => by cases h; exact ⟨_, fun _ _ => .bl _, fun H Q q => ⟨i, j, rfl, rfl, q⟩⟩
def oNeg (x : D) (A : Hs) : RE D := match x with
  | .int i => .ok (.int (-i)) A
  | _ => .stuck
theorem us_neg : UnS K ca (rU fun i => .int (-i)) oNeg := fun F m A H x dx W σ Q R rx p => by
  cases rx with
  | int i => exact ⟨i, rfl, po_ok R (.int _) p⟩
  | _ => exact p.elim
/-- a list that may be read -/
def seqL (A : Hs) : D → Option (List D)
  | .ref i => match A[i]? with
    | some (.lst l) => some l
    | _ => none
  | .scr l => some l
  | _ => none
def seqT : D → Option (List D)
  | .tup l => some l
  | .wt l => some l
  | _ => none
theorem seqL_at {x : V} {d : D} {l : List D} (R : Rl K ca F m A H) (r : Rep K ca F m x d) (h : seqL A d = some l) : ∃ a vs, x = .ref a ∧ SqL K H a vs ∧ RepL K ca F m vs l := by
  cases r with
  | ref hm =>
    rename_i a i
    unfold seqL at h
    simp only at h
    cases q : A[i]? with
    | none => simp [q] at h
    | some o =>
      cases o with
      | lst l' =>
        simp [q] at h; subst h
        obtain ⟨a', e, ha, vs, h1, h2⟩ := R.at (v := .ref a) q (.ref hm)
        cases e
        exact ⟨a, vs, rfl, .inl (.inl h1), h2⟩
      | dic _ _ _ => simp [q] at h
      | obj _ _ => simp [q] at h
      | nd _ => simp [q] at h
  | scr s rs => cases h; exact ⟨_, _, rfl, R.fh.l s, rs⟩
  | _ => cases h
theorem seqT_at {x : V} {d : D} {l : List D} (R : Rl K ca F m A H) (r : Rep K ca F m x d) (h : seqT d = some l) : ∃ a vs, x = .ref a ∧ SqT K H a vs ∧ RepL K ca F m vs l := by
  cases r with
  | tup s rs => cases h; exact ⟨_, _, rfl, .inl (.inl (R.fh _ _ s)), rs⟩
  | wt s rs => cases h; exact ⟨_, _, rfl, R.fh.t s, rs⟩
  | _ => cases h
/-- a list of the plain heap -/
theorem lst_at {x : V} {i : Nat} {l : List D} (R : Rl K ca F m A H) (r : Rep K ca F m x (.ref i)) (h : A[i]? = some (.lst l)) : ∃ a vs, x = .ref a ∧ m[i]? = some a ∧ H a = some (.lst vs) ∧ RepL K ca F m vs l := by
  obtain ⟨a, e, ha, vs, h1, h2⟩ := R.at h r
  exact ⟨a, vs, e, ha, h1, h2⟩
theorem lst_put {i : Nat} {l' : List D} {vs' : List V} (R : Rl K ca F m A H) {a : Addr} {vs : List V} (ha : m[i]? = some a) (h1 : H a = some (.lst vs)) (r : RepL K ca F m vs' l') :
    Rl K ca F m (A.set i (.lst l')) (upd H a (.lst vs')) ∧ Stp F m H F m (upd H a (.lst vs')) :=
  R.put (o' := .lst l') ha (fun od w z => by rw [h1] at z; cases z) ⟨vs', upd_same, r⟩

/-! ### + -/
def oAdd (x y : D) (A : Hs) : RE D := match x, y with
  | .int i, .int j => .ok (.int (i + j)) A
  | .str a, .str b => if a.length + b.length ≤ sizeLine then .ok (.str (a ++ b)) A else .stuck
  | .tup l, .tup k => if l.length + k.length ≤ sizeLine then .ok (.tup (l ++ k)) A else .stuck
  | .wt l, .tup k => if l ≠ [] ∧ l.length + k.length ≤ sizeLine then .ok (if k.isEmpty then .wt l else .tup (l ++ k)) A else .stuck
  | .tup l, .wt k => if k ≠ [] ∧ l.length + k.length ≤ sizeLine then .ok (if l.isEmpty then .wt k else .tup (l ++ k)) A else .stuck
  | .ref i, .ref j => match A[i]?, A[j]? with
    | some (.lst l), some (.lst k) => if l.length + k.length ≤ sizeLine then alloc A (.lst (l ++ k)) else .stuck
    | _, _ => .stuck
  | _, _ => .stuck
theorem os_add : OpS K ca (rAddU K) oAdd := fun F m A H x y dx dy W σ Q R rx ry p => by
  cases rx with
  | int i =>
    cases ry with
    | int j => exact .inl ⟨i, j, rfl, rfl, po_ok R (.int _) p⟩
    | _ => exact p.elim
  | str a =>
    cases ry with
    | str b =>
      unfold oAdd at p
      simp only at p
      split at p
      · rename_i hl; exact .inr (.inl ⟨a, b, rfl, rfl, hl, po_ok R (.str _) p⟩)
      · exact p.elim
    | _ => exact p.elim
  | tup s rs =>
    cases ry with
    | tup s' rs' =>
      rename_i a vs l b ws k
      unfold oAdd at p
      simp only at p
      split at p
      · rename_i hl
        refine .inr (.inr (.inl ⟨a, b, vs, ws, rfl, rfl, .inl (.inl (R.fh _ _ s)), .inl (.inl (R.fh _ _ s')), by rw [rs.length, rs'.length]; exact hl, fun e => ?_, fun _ e => ?_, fun _ _ q hq => ?_⟩))
        · subst e; cases rs; exact po_ok R (.tup s' rs') p
        · subst e; cases rs'; rw [List.append_nil] at p; exact po_ok R (.tup s rs) p
        · obtain ⟨R2, g2⟩ := R.new (u := .tup (vs ++ ws)) hq
          exact p _ _ _ _ R2 g2 (.tup upd_same ((rs.append rs').mono g2.ff g2.mm))
      · exact p.elim
    | wt s' rs' =>
      rename_i a vs l b ws k
      unfold oAdd at p
      simp only at p
      split at p
      · rename_i hl
        refine .inr (.inr (.inl ⟨a, b, vs, ws, rfl, rfl, .inl (.inl (R.fh _ _ s)), R.fh.t s', by rw [rs.length, rs'.length]; exact hl.2, fun e => ?_, fun _ e => ?_, fun n1 _ q hq => ?_⟩))
        · subst e; cases rs; exact po_ok R (.wt s' rs') p
        · subst e; cases rs'; exact absurd rfl hl.1
        · obtain ⟨R2, g2⟩ := R.new (u := .tup (vs ++ ws)) hq
          have : l.isEmpty = false := by
            cases rs with
            | nil => exact absurd rfl n1
            | cons _ _ => rfl
          rw [this] at p
          exact p _ _ _ _ R2 g2 (.tup upd_same ((rs.append rs').mono g2.ff g2.mm))
      · exact p.elim
    | _ => exact p.elim
  | wt s rs =>
    cases ry with
    | tup s' rs' =>
      rename_i a vs l b ws k
      unfold oAdd at p
      simp only at p
      split at p
      · rename_i hl
        refine .inr (.inr (.inl ⟨a, b, vs, ws, rfl, rfl, R.fh.t s, .inl (.inl (R.fh _ _ s')), by rw [rs.length, rs'.length]; exact hl.2, fun e => ?_, fun _ e => ?_, fun _ n2 q hq => ?_⟩))
        · subst e; cases rs; exact absurd rfl hl.1
        · subst e; cases rs'; exact po_ok R (.wt s rs) p
        · obtain ⟨R2, g2⟩ := R.new (u := .tup (vs ++ ws)) hq
          have : k.isEmpty = false := by
            cases rs' with
            | nil => exact absurd rfl n2
            | cons _ _ => rfl
          rw [this] at p
          exact p _ _ _ _ R2 g2 (.tup upd_same ((rs.append rs').mono g2.ff g2.mm))
      · exact p.elim
    | _ => exact p.elim
  | ref hm =>
    cases ry with
    | ref hm' =>
      rename_i a i b j
      unfold oAdd at p
      simp only at p
      split at p
      · rename_i l k q1 q2
        split at p
        · rename_i hl
          obtain ⟨a', vs, e1, h1, h2, h3⟩ := lst_at R (.ref hm) q1
          obtain ⟨b', ws, e2, h4, h5, h6⟩ := lst_at R (.ref hm') q2
          refine .inr (.inr (.inr ⟨a', b', vs, ws, e1, e2, h2, h5, by rw [h3.length, h6.length]; exact hl, fun q hq => ?_⟩))
          exact po_alloc (o := .lst (l ++ k)) R hq ⟨_, upd_same, (h3.append h6).mono (Ex.refl _) ⟨_, rfl⟩⟩ p
        · exact p.elim
      · exact p.elim
    | _ => exact p.elim
  | _ => exact p.elim
/-! ### * -/
open Classical in
noncomputable def oMul (x y : D) (A : Hs) : RE D := match x, y with
  | .int i, .int j => if CMul i j ∨ CMulX i j then .ok (.int (i * j)) A else .stuck
  | .tup l, .int j => if l.length ≤ 1000 ∧ -1000 ≤ j ∧ j ≤ 4000 then .ok (.tup (List.replicate j.toNat l).flatten) A else .stuck
  | .ref i, .int j => match A[i]? with
    | some (.lst l) => if -(2 ^ 63) ≤ j ∧ j < 2 ^ 63 ∧ l.length * j.toNat ≤ sizeLine then alloc A (.lst (List.replicate j.toNat l).flatten) else .stuck
    | _ => .stuck
  | _, _ => .stuck
theorem os_mul : OpS K ca (rMulA K) oMul := fun F m A H x y dx dy W σ Q R rx ry p => by
  cases ry with
  | int j =>
    cases rx with
    | int i =>
      unfold oMul at p
      simp only at p
      split at p
      · rename_i hc
        refine .inl ?_
        rcases hc with hc | hc
        · exact .inl ⟨i, j, rfl, rfl, hc, po_ok R (.int _) p⟩
        · exact .inr (.inl ⟨i, j, rfl, rfl, hc, po_ok R (.int _) p⟩)
      · exact p.elim
    | tup s rs =>
      rename_i a vs l
      unfold oMul at p
      simp only at p
      split at p
      · rename_i hc
        have lv := rs.length
        refine .inr ⟨a, j, vs, rfl, rfl, .inl (.inl (R.fh _ _ s)), hc.2.2, hc.2.1, by omega, fun e => ?_, fun e => ?_, fun n1 n2 q hq => ?_⟩
        · subst e; cases rs
          have : (List.replicate j.toNat ([] : List D)).flatten = [] := by simp
          rw [this] at p
          exact po_ok R (.tup s .nil) p
        · subst e
          have : (List.replicate (1 : Int).toNat l).flatten = l := by simp
          rw [this] at p
          exact po_ok R (.tup s rs) p
        · obtain ⟨R2, g2⟩ := R.new (u := .tup (List.replicate j.toNat vs).flatten) hq
          exact p _ _ _ _ R2 g2 (.tup upd_same ((rs.flatRep _).mono g2.ff g2.mm))
      · exact p.elim
    | ref hm =>
      rename_i a i
      unfold oMul at p
      simp only at p
      split at p
      · rename_i l q1
        split at p
        · rename_i hc
          obtain ⟨a', vs, e1, h1, h2, h3⟩ := lst_at R (.ref hm) q1
          refine .inl (.inr (.inr ⟨a', j, vs, e1, rfl, h2, hc.1, hc.2.1, by rw [h3.length]; exact hc.2.2, fun q hq => ?_⟩))
          exact po_alloc (o := .lst (List.replicate j.toNat l).flatten) R hq ⟨_, upd_same, (h3.flatRep _).mono (Ex.refl _) ⟨_, rfl⟩⟩ p
        · exact p.elim
      · exact p.elim
    | _ => exact p.elim
  | _ => cases rx <;> exact p.elim
/-! ### is -/
def isNon : D → Bool
  | .non => true
  | _ => false
theorem rep_non {v : V} {d : D} (h : Rep K ca F m v d) : decide (v = V.non) = isNon d := by
  cases h <;> first | rfl | simp [isNon]
def oIs (x y : D) (A : Hs) : RE D := match y with
  | .non => .ok (.bl (isNon x)) A
  | .bl c => match x with
    | .bl b => .ok (.bl (decide (b = c))) A
    | _ => .stuck
  | _ => .stuck
def oIsNot (x y : D) (A : Hs) : RE D := match y with
  | .non => .ok (.bl (!isNon x)) A
  | .bl c => match x with
    | .bl b => .ok (.bl (!decide (b = c))) A
    | _ => .stuck
  | _ => .stuck
theorem os_is : OpS K ca rIsU oIs := fun F m A H x y dx dy W σ Q R rx ry p => by
  cases ry with
  | non => refine .inl ⟨rfl, ?_⟩; rw [rep_non rx]; exact po_ok R (.bl _) p
  | bl c =>
    cases rx with
    | bl b => exact .inr ⟨b, c, rfl, rfl, po_ok R (.bl _) p⟩
    | _ => exact p.elim
  | _ => exact p.elim
theorem os_isnot : OpS K ca rNotU oIsNot := fun F m A H x y dx dy W σ Q R rx ry p => by
  cases ry with
  | non => refine .inl ⟨rfl, ?_⟩; rw [rep_non rx]; exact po_ok R (.bl _) p
  | bl c =>
    cases rx with
    | bl b => exact .inr ⟨b, c, rfl, rfl, po_ok R (.bl _) p⟩
    | _ => exact p.elim
  | _ => exact p.elim
/-! ### subscripts -/
def oIx (x y : D) (A : Hs) : RE D := match y with
  | .int i => match seqL A x with
    | some l => match atI l i with
      | some d => .ok d A
      | none => .stuck
    | none => match seqT x with
      | some l => match atI l i with
        | some d => .ok d A
        | none => .stuck
      | none => match x with
        | .str z => if z.length ≤ sizeLine then match atI z.cps.toList i with
            | some c => .ok (.str ⟨#[c]⟩) A
            | none => .stuck
          else .stuck
        | _ => .stuck
  | _ => .stuck
theorem atI_rep {vs : List V} {l : List D} {i : Int} {d : D} (p : RepL K ca F m vs l) (h : atI l i = some d) : ∃ v, atI vs i = some v ∧ Rep K ca F m v d := by
  unfold atI at h ⊢
  obtain ⟨n, e, g⟩ := Option.bind_eq_some_iff.mp h
  obtain ⟨z, z1, z2⟩ := p.get g
  exact ⟨z, by rw [p.length, e]; exact z1, z2⟩
theorem os_ix : OpS K ca (rIx K) oIx := fun F m A H x y dx dy W σ Q R rx ry p => by
  cases ry with
  | int i =>
    unfold oIx at p
    simp only at p
    split at p
    · rename_i l hl
      split at p
      · rename_i d hd
        obtain ⟨a, vs, e, h1, h2⟩ := seqL_at R rx hl
        obtain ⟨v, h3, h4⟩ := atI_rep h2 hd
        exact .inl ⟨a, vs, i, v, e, rfl, h1, h3, po_ok R h4 p⟩
      · exact p.elim
    · split at p
      · rename_i l hl
        split at p
        · rename_i d hd
          obtain ⟨a, vs, e, h1, h2⟩ := seqT_at R rx hl
          obtain ⟨v, h3, h4⟩ := atI_rep h2 hd
          exact .inr (.inl ⟨a, vs, i, v, e, rfl, h1, h3, po_ok R h4 p⟩)
        · exact p.elim
      · cases rx with
        | str z =>
          simp only at p
          split at p
          · rename_i hz
            split at p
            · rename_i c hc
              exact .inr (.inr ⟨z, i, c, rfl, rfl, hz, hc, po_ok R (.str _) p⟩)
            · exact p.elim
          · exact p.elim
        | _ => exact p.elim
  | _ => exact p.elim
def cutD {α : Type} (xs : List α) (lo hi : Option Int) : List α := (xs.drop (HT.sIx xs.length 0 lo)).take (HT.sIx xs.length xs.length hi - HT.sIx xs.length 0 lo)
theorem cut_rep {vs : List V} {l : List D} {lo hi : Option Int} (h : RepL K ca F m vs l) : RepL K ca F m (cutV vs lo hi) (cutD l lo hi) := by
  unfold cutV cutD
  rw [h.length]
  exact (h.drop _).take _
def oSl (x : D) (lo hi : Option Int) (A : Hs) : RE D := match seqL A x with
  | some l => alloc A (.lst (cutD l lo hi))
  | none => match x with
    | .tup l => .ok (.tup (cutD l lo hi)) A
    | .str z => if z.length ≤ sizeLine then .ok (.str (cutS z lo hi)) A else .stuck
    | _ => .stuck
theorem sls_all : SlS K ca (DL.rSlU K) oSl := fun F m A H x dx lo hi W σ Q R rx p => by
  unfold oSl at p
  split at p
  · rename_i l hl
    obtain ⟨a, vs, e, h1, h2⟩ := seqL_at R rx hl
    exact .inl ⟨a, vs, e, h1, fun q hq => po_alloc (o := .lst (cutD l lo hi)) R hq ⟨_, upd_same, (cut_rep h2).mono (Ex.refl _) ⟨_, rfl⟩⟩ p⟩
  · cases rx with
    | @tup a vs l s rs =>
      refine .inr (.inl ⟨a, vs, rfl, .inl (.inl (R.fh _ _ s)), fun hw => ?_, fun _ q hq => ?_⟩)
      · have e : cutD l lo hi = l := by
          unfold cutD
          rw [← rs.length, hw.1, hw.2]
          simp [rs.length]
        simp only [e] at p
        exact po_ok R (.tup s rs) p
      · obtain ⟨R2, g2⟩ := R.new (u := .tup (cutV vs lo hi)) hq
        exact p _ _ _ _ R2 g2 (.tup upd_same ((cut_rep rs).mono g2.ff g2.mm))
    | str z =>
      simp only at p
      split at p
      · rename_i hz; exact .inr (.inr ⟨z, rfl, hz, po_ok R (.str _) p⟩)
      · exact p.elim
    | _ => exact p.elim
def oRev (x : D) (A : Hs) : RE D := match seqL A x with
  | some l => alloc A (.lst l.reverse)
  | none => .stuck
/-! ### which of two readings -/
theorem Sim.pick {α β : Type} {Rr : Hp → List Addr → β → α → Prop} {t u : L2.St → Hp → (β → Hp → Prop) → Prop} {f g h : Sl → Hs → RE α} (h1 : Sim K ca Rr W t g) (h2 : Sim K ca Rr W u h) (k : ∀ env A, f env A = g env A ∨ f env A = h env A) : Sim K ca Rr W (fun σ H Q => t σ H Q ∨ u σ H Q) f := fun F m A σ H env Q R S p => by
  rcases k env A with q | q
  · rw [q] at p; exact .inl (h1 F m A σ H env Q R S p)
  · rw [q] at p; exact .inr (h2 F m A σ H env Q R S p)
end
end SM

namespace L2
open PySem PySem.Spec PyProof.Rows
/-- x in a list or tuple of data -/
def rInP (K : PySem.W.Frag) (neg : Bool) : R2 := fun x y H Q => ∃ d ds, Dp K H x d ∧ (Dp K H y (.list ds) ∨ Dp K H y (.tuple ds)) ∧ d.plain = true ∧ PyData.plainAll ds = true ∧ d.depth ≤ 60 ∧ Q (.bl (if neg then !(ds.any fun z => PyData.eqv z d) else ds.any fun z => PyData.eqv z d)) H
theorem op_inP {X : Cx} {K : PySem.W.Frag} (hu : X.A.units + 65 < cLine) (eK : X.K = K := by rfl) : OpR X (compareOp .In) (rInP K false) := by
  subst eK
  intro pins s σ H x y v u Q I rx ry h
  obtain ⟨d, ds, hd, he, sd, se, dp, q⟩ := h
  obtain ⟨as, r1⟩ := Dp.reads I d x v hd rx
  rcases he with he | he
  · obtain ⟨bs, r2⟩ := Dp.reads I _ y u he ry
    exact PySem.SeqAt.in_list_data r2 r1 se sd (by omega) ⟨.bl _, H, I, rfl, q⟩
  · obtain ⟨bs, r2⟩ := Dp.reads I _ y u he ry
    exact PySem.SeqAt.in_tuple_data r2 r1 se sd (by omega) ⟨.bl _, H, I, rfl, q⟩
theorem op_notInP {X : Cx} {K : PySem.W.Frag} (hu : X.A.units + 65 < cLine) (eK : X.K = K := by rfl) : OpR X (compareOp .NotIn) (rInP K true) := by
  subst eK
  intro pins s σ H x y v u Q I rx ry h
  obtain ⟨d, ds, hd, he, sd, se, dp, q⟩ := h
  obtain ⟨as, r1⟩ := Dp.reads I d x v hd rx
  rcases he with he | he
  · obtain ⟨bs, r2⟩ := Dp.reads I _ y u he ry
    exact PySem.SeqAt.notIn_list_data r2 r1 se sd (by omega) ⟨.bl _, H, I, rfl, q⟩
  · obtain ⟨bs, r2⟩ := Dp.reads I _ y u he ry
    exact PySem.SeqAt.notIn_tuple_data r2 r1 se sd (by omega) ⟨.bl _, H, I, rfl, q⟩
/-- y in d -/
def rDIn (neg : Bool) : R2 := fun y x H Q => ∃ a o, x = .ref a ∧ DGet H a y o ∧ Q (.bl (if neg then !o.isSome else o.isSome)) H
theorem op_dIn {X : Cx} (hu : X.A.units + 65 < cLine) : OpR X (compareOp .In) (rDIn false) := by
  intro pins s σ H y x iv u Q I ry rx h
  obtain ⟨a, ov, ex, g, q2⟩ := h
  subst ex
  obtain rfl : u = Value.ref a := rx
  exact d_in (by omega) I g ry fun s3 I3 => ⟨.bl ov.isSome, H, I3, rfl, q2⟩
theorem op_dNotIn {X : Cx} (hu : X.A.units + 65 < cLine) : OpR X (compareOp .NotIn) (rDIn true) := by
  intro pins s σ H y x iv u Q I ry rx h
  obtain ⟨a, ov, ex, g, q2⟩ := h
  subst ex
  obtain rfl : u = Value.ref a := rx
  exact d_notIn (by omega) I g ry fun s3 I3 => ⟨.bl (!ov.isSome), H, I3, rfl, q2⟩
def rInAll (K : PySem.W.Frag) (neg : Bool) : R2 := fun x y H Q => rInP K neg x y H Q ∨ (DL.rSign neg x y H Q ∨ rDIn neg x y H Q)
theorem op_inAll {X : Cx} {K : PySem.W.Frag} (hu : X.A.units + 65 < cLine) (e : X.K = K := by rfl) : OpR X (compareOp .In) (rInAll K false) := DL.OpR.or (op_inP hu e) (DL.OpR.or op_in_sign (op_dIn hu))
theorem op_notInAll {X : Cx} {K : PySem.W.Frag} (hu : X.A.units + 65 < cLine) (e : X.K = K := by rfl) : OpR X (compareOp .NotIn) (rInAll K true) := DL.OpR.or (op_notInP hu e) (DL.OpR.or op_notIn_sign (op_dNotIn hu))
theorem op_eqPK {X : Cx} {K : PySem.W.Frag} (hu : X.A.units + 65 < cLine) (e : X.K = K := by rfl) : OpR X (compareOp .Eq) (rEqP K) := by subst e; exact op_eqP (by omega)
theorem op_nePK {X : Cx} {K : PySem.W.Frag} (hu : X.A.units + 65 < cLine) (e : X.K = K := by rfl) : OpR X (compareOp .NotEq) (rNeP K) := by subst e; exact op_neP (by omega)
end L2
namespace SM
open PySem L2
open DL (Ex ExK rLenU rAbs rMax2 rMin2 rInt1 rListOf rTupleOf iSeqU rIsiU InC)
section
variable {K : PySem.W.Frag} {ca : CaT} {F F1 F2 H H1 H2 : Hp} {m m1 m2 : List Addr} {A A1 A2 : Hs} {σ : L2.St} {env : Sl} {W : WX} {Q : VK}
variable {ta tb tc te : TE} {a b c : E} {i : Nat} {d : D} {ts : TA} {as : As} {x : V} {dx : D}
/-! ### dicts -/
def keyK : D → Option Key
  | .int i => some (.inl i)
  | .str x => some (.inr x)
  | _ => none
def keysK : List D → Option (List Key)
  | [] => some []
  | d :: r => match keyK d, keysK r with
    | some k, some ks => some (k :: ks)
    | _, _ => none
/-- whether two keys are one -/
def keq : D → D → Bool
  | .int i, .int j => decide (i = j)
  | .str x, .str y => decide (x = y)
  | .tup l, .tup k => keqL l k
  | _, _ => false
where keqL : List D → List D → Bool
  | [], [] => true
  | .int i :: r, .int j :: s => decide (i = j) && keqL r s
  | .str x :: r, .str y :: s => decide (x = y) && keqL r s
  | _, _ => false
def kget : List (D × D) → D → Option D
  | [], _ => none
  | (k, v) :: r, y => if keq k y then some v else kget r y
def khas (l : List (D × D)) (y : D) : Bool := l.any fun kv => keq kv.1 y
def kput (l : List (D × D)) (y v : D) : List (D × D) := if khas l y then l.map (fun kv => if keq kv.1 y then (kv.1, v) else kv) else l ++ [(y, v)]
def kdel (l : List (D × D)) (y : D) : List (D × D) := l.filter fun kv => !keq kv.1 y
/-- y may be a key of a dict of the kind t -/
def keyOk : Bool → D → Bool
  | false, y => (keyK y).isSome
  | true, .tup l => (keysK l).isSome
  | true, _ => false
theorem keyK_kD {y : D} {k : Key} (h : keyK y = some k) : y = kD k := by
  cases y <;> simp [keyK] at h <;> subst h <;> rfl
theorem keysK_kT : ∀ {l : List D} {ks : List Key}, keysK l = some ks → l = ks.map kD
  | [], ks, h => by cases h; rfl
  | d :: r, ks, h => by
    unfold keysK at h
    cases q : keyK d with
    | none => rw [q] at h; cases h
    | some k =>
      cases q2 : keysK r with
      | none => rw [q, q2] at h; cases h
      | some s => rw [q, q2] at h; cases h; rw [List.map_cons, ← keyK_kD q, ← keysK_kT q2]
theorem keq_kD (a b : Key) : keq (kD a) (kD b) = decide (a = b) := by
  cases a <;> cases b <;> simp [kD, keq]
theorem keqL_kT : ∀ (a b : List Key), keq.keqL (a.map kD) (b.map kD) = decide (a = b)
  | [], [] => by simp [keq.keqL]
  | [], y :: s => by cases y <;> simp [keq.keqL]
  | x :: r, [] => by cases x <;> simp [keq.keqL]
  | x :: r, y :: s => by
    have ih := keqL_kT r s
    cases x <;> cases y <;> simp [kD, keq.keqL, ih]
theorem keq_kT (a b : List Key) : keq (kT a) (kT b) = decide (a = b) := by
  unfold kT keq; exact keqL_kT a b
section
variable {κ : Type} [DecidableEq κ] {kd : κ → D}
theorem kget_rep (hk : ∀ a b, keq (kd a) (kd b) = decide (a = b)) {k : κ} : ∀ {kvs : List (κ × V)} {l : List (D × D)}, KvR K ca F m kd kvs l → (∀ d, kget l (kd k) = some d → ∃ v, valV kvs k = some v ∧ Rep K ca F m v d) ∧ (kget l (kd k) = none → valV kvs k = none)
  | _, _, .nil => ⟨fun d h => by simp [kget] at h, fun _ => rfl⟩
  | _, _, .cons (k := k') (v := v') h r => by
    have ih := kget_rep hk (k := k) r
    unfold kget valV
    by_cases q : k' = k
    · subst q
      simp only [hk, decide_true, if_true, List.find?_cons]
      exact ⟨fun d e => by cases e; exact ⟨v', by simp, h⟩, fun e => by cases e⟩
    · rw [hk, decide_eq_false q]
      simp only [Bool.false_eq_true, if_false, List.find?_cons, decide_eq_false q]
      exact ih
theorem khas_rep (hk : ∀ a b, keq (kd a) (kd b) = decide (a = b)) {k : κ} : ∀ {kvs : List (κ × V)} {l : List (D × D)}, KvR K ca F m kd kvs l → khas l (kd k) = kvs.any fun kv => decide (kv.1 = k)
  | _, _, .nil => rfl
  | _, _, .cons h r => by
    have ih := khas_rep hk (k := k) r
    unfold khas at ih ⊢
    rw [List.any_cons, List.any_cons, ih, hk]
theorem KvR.snoc {k : κ} {v : V} (hv : Rep K ca F m v d) : ∀ {kvs : List (κ × V)} {l : List (D × D)}, KvR K ca F m kd kvs l → KvR K ca F m kd (kvs ++ [(k, v)]) (l ++ [(kd k, d)])
  | _, _, .nil => .cons hv .nil
  | _, _, .cons h r => .cons h (KvR.snoc hv r)
theorem KvR.remap (hk : ∀ a b, keq (kd a) (kd b) = decide (a = b)) {k : κ} {v : V} (hv : Rep K ca F m v d) : ∀ {kvs : List (κ × V)} {l : List (D × D)}, KvR K ca F m kd kvs l → KvR K ca F m kd (kvs.map fun kv => if kv.1 = k then (kv.1, v) else kv) (l.map fun kv => if keq kv.1 (kd k) then (kv.1, d) else kv)
  | _, _, .nil => .nil
  | _, _, .cons (k := k') h r => by
    rw [List.map_cons, List.map_cons]
    by_cases q : k' = k
    · simp only [q, hk, decide_true, if_true]; exact .cons hv (KvR.remap hk hv r)
    · simp only [q, hk, decide_false, Bool.false_eq_true, if_false]; exact .cons h (KvR.remap hk hv r)
theorem kput_rep (hk : ∀ a b, keq (kd a) (kd b) = decide (a = b)) {k : κ} {v : V} (hv : Rep K ca F m v d) {kvs : List (κ × V)} {l : List (D × D)} (h : KvR K ca F m kd kvs l) : KvR K ca F m kd (putK kvs k v) (kput l (kd k) d) := by
  unfold putK kput
  rw [khas_rep hk h]
  split
  · exact KvR.remap hk hv h
  · exact KvR.snoc hv h
end
/-- the dict at hand: its kind, its pairs -/
def dicAt (A : Hs) : D → Option (Bool × List (D × D))
  | .ref i => match A[i]? with
    | some (.dic t _ l) => some (t, l)
    | _ => none
  | _ => none
theorem rdK {lk : Bool} {a : Addr} {u : HO} (h : At H a lk u) : L2.Rd H a u := by
  cases lk with
  | false => exact .inl h
  | true => exact .inr h
theorem tup_key {y : V} {l : List D} {ks : List Key} (R : Rl K ca F m A H) (r : Rep K ca F m y (.tup l)) (h : keysK l = some ks) : ∃ b, y = .ref b ∧ H b = some (.tup (ks.map kV)) := by
  cases r with
  | tup s rs =>
    refine ⟨_, rfl, ?_⟩
    have e := keysK_kT h
    subst e
    have : ∀ {vs : List V} {ks : List Key}, RepL K ca F m vs (ks.map kD) → vs = ks.map kV := by
      intro vs ks
      induction ks generalizing vs with
      | nil => intro r; cases r; rfl
      | cons k ks ih =>
        intro r
        cases r with
        | cons q t =>
          rw [List.map_cons, ih t]
          cases k with
          | inl i => cases q; rfl
          | inr x => cases q; rfl
    rw [← this rs]
    exact R.fh _ _ s
/-- what the dict holds at a key -/
theorem dic_get {x y : V} {dy : D} {t : Bool} {l : List (D × D)} (R : Rl K ca F m A H) (rx : Rep K ca F m x dx) (ry : Rep K ca F m y dy) (h : dicAt A dx = some (t, l)) (hk : keyOk t dy = true) : ∃ a o, x = .ref a ∧ DGet H a y o ∧ L2.IsD H a ∧ (∀ d, kget l dy = some d → ∃ v, o = some v ∧ Rep K ca F m v d) ∧ (kget l dy = none → o = none) := by
  cases dx with
  | ref i =>
    unfold dicAt at h
    cases q : A[i]? with
    | none => simp [q] at h
    | some o =>
      cases o with
      | dic t' lk l' =>
        simp [q] at h
        obtain ⟨rfl, rfl⟩ := h
        obtain ⟨a, e, ha, r⟩ := R.at q rx
        cases t' with
        | false =>
          obtain ⟨kvs, h1, h2⟩ := r
          cases z : keyK dy with
          | none => simp [keyOk, z] at hk
          | some k =>
            have e2 := keyK_kD z
            subst e2
            obtain ⟨g1, g2⟩ := kget_rep keq_kD (k := k) h2
            refine ⟨a, valV kvs k, e, .inl ⟨kvs, k, rdK h1, ?_, rfl⟩, .inl ⟨kvs, rdK h1⟩, g1, g2⟩
            cases k with
            | inl i => cases ry; rfl
            | inr x => cases ry; rfl
        | true =>
          obtain ⟨kvs, h1, h2⟩ := r
          cases dy with
          | tup dl =>
              cases z : keysK dl with
            | none => simp [keyOk, z] at hk
            | some ks =>
              obtain ⟨b, e3, h3⟩ := tup_key R ry z
              have e2 := keysK_kT z
              subst e2
              obtain ⟨g1, g2⟩ := kget_rep keq_kT (k := ks) h2
              exact ⟨a, valV kvs ks, e, .inr ⟨kvs, ks, b, rdK h1, e3, h3, rfl⟩, .inr ⟨kvs, rdK h1⟩, g1, g2⟩
          | _ => simp [keyOk] at hk
      | lst _ => simp [q] at h
      | obj _ _ => simp [q] at h
      | nd _ => simp [q] at h
  | _ => simp [dicAt] at h
/-- d[y] -/
def oDGet (x y : D) (A : Hs) : RE D := match dicAt A x with
  | some (t, l) => if keyOk t y then match kget l y with
      | some d => .ok d A
      | none => .stuck
    else .stuck
  | none => .stuck
/-- y in c -/
def inData (A : Hs) (x c : D) : Option Bool := match pyA A 40 x, pyA A 40 c with
  | some p, some (.list ps) => some (ps.any fun z => PyData.eqv z p)
  | some p, some (.tuple ps) => some (ps.any fun z => PyData.eqv z p)
  | _, _ => none
def inStr (x : D) (w : Str) : Option Bool := match x with
  | .str z => match z.cps.toList with
    | [k] => some (decide (k ∈ w.cps.toList))
    | _ => none
  | _ => none
def inDic (t : Bool) (l : List (D × D)) (x : D) : Option Bool := if keyOk t x then some (kget l x).isSome else none
def inA (A : Hs) (x c : D) : Option Bool := match dicAt A c with
  | some (t, l) => inDic t l x
  | none => match c with
    | .str w => inStr x w
    | _ => inData A x c
def oIn : D → D → Hs → RE D := oB inA
def oNotIn : D → D → Hs → RE D := oB fun A x y => (inA A x y).map (!·)
theorem in_data {neg b : Bool} {x y : V} {dx dy : D} (R : Rl K ca F m A H) (rx : Rep K ca F m x dx) (ry : Rep K ca F m y dy) (h : inData A dx dy = some b) (q : Q (.bl (if neg then !b else b)) H) : rInAll K neg x y H Q := by
  unfold inData at h
  cases q1 : pyA A 40 dx with
  | none => simp [q1] at h
  | some p1 =>
    cases q2 : pyA A 40 dy with
    | none => simp [q1, q2] at h
    | some p2 =>
      obtain ⟨a1, a2, a3⟩ := dp_of R rx q1
      obtain ⟨b1, b2, b3⟩ := dp_of R ry q2
      cases p2 with
      | list ps =>
        simp only [q1, q2, Option.some.injEq] at h
        subst h
        exact .inl ⟨p1, ps, a1, .inl b1, a2, b2, by omega, q⟩
      | tuple ps =>
        simp only [q1, q2, Option.some.injEq] at h
        subst h
        exact .inl ⟨p1, ps, a1, .inr b1, a2, b2, by omega, q⟩
      | _ => simp [q1, q2] at h
theorem in_core {neg b : Bool} {x y : V} {dx dy : D} (R : Rl K ca F m A H) (rx : Rep K ca F m x dx) (ry : Rep K ca F m y dy) (h : inA A dx dy = some b) (q : Q (.bl (if neg then !b else b)) H) : rInAll K neg x y H Q := by
  unfold inA at h
  cases hd : dicAt A dy with
  | some tl =>
    obtain ⟨t, l⟩ := tl
    simp only [hd, inDic] at h
    split at h
    · rename_i hk
      obtain ⟨a, o, e, h1, _, h2, h3⟩ := dic_get R ry rx hd hk
      refine .inr (.inr ⟨a, o, e, h1, ?_⟩)
      have : o.isSome = b := by
        cases h
        cases z : kget l dx with
        | none => rw [h3 z]; rfl
        | some d => obtain ⟨v, e2, _⟩ := h2 d z; rw [e2]; rfl
      rw [this]; exact q
    · cases h
  | none =>
    simp only [hd] at h
    cases ry with
    | str w =>
      simp only [inStr] at h
      cases rx with
      | str z =>
        simp only at h
        split at h
        · rename_i k hz
          cases h
          have : z = ⟨#[k]⟩ := by
            cases z with
            | mk cps => congr; exact Array.toList_inj.mp (by simpa using hz)
          subst this
          exact .inr (.inl ⟨k, w, rfl, rfl, q⟩)
        · cases h
      | _ => cases h
    | non => exact in_data R rx .non h q
    | bl b => exact in_data R rx (.bl b) h q
    | int b => exact in_data R rx (.int b) h q
    | ty b => exact in_data R rx (.ty b) h q
    | tup s r => exact in_data R rx (.tup s r) h q
    | wt s r => exact in_data R rx (.wt s r) h q
    | scr s r => exact in_data R rx (.scr s r) h q
    | ref s => exact in_data R rx (.ref s) h q
    | nm s => exact in_data R rx (.nm s) h q
    | exc s => exact in_data R rx (.exc s) h q
theorem os_in : OpS K ca (rInAll K false) oIn := fun F m A H x y dx dy W σ Q R rx ry p => by
  unfold oIn oB at p
  cases q : inA A dx dy with
  | none => rw [q] at p; exact p.elim
  | some b => rw [q] at p; exact in_core R rx ry q (po_ok R (.bl _) p)
theorem os_notin : OpS K ca (rInAll K true) oNotIn := fun F m A H x y dx dy W σ Q R rx ry p => by
  unfold oNotIn oB at p
  cases q : inA A dx dy with
  | none => simp only [q] at p; exact p.elim
  | some b => simp only [q, Option.map] at p; exact in_core R rx ry q (po_ok R (.bl _) p)
/-! ### stores -/
/-- xs[i] = v, d[k] = v -/
def setIt (A : Hs) (x y v : D) : Option Hs := match x with
  | .ref i => match A[i]? with
    | some (.lst l) => match y with
      | .int k => match ixN l.length k with
        | some n => some (A.set i (.lst (l.set n v)))
        | none => none
      | _ => none
    | some (.dic t false l) => if keyOk t y && decide (l.length < sizeLine) then some (A.set i (.dic t false (kput l y v))) else none
    | _ => none
  | _ => none
/-- o[i] = e: first e, then o, then i -/
def ofH (env : Sl) : Option Hs → RS
  | some A => .nx env A
  | none => .stuck
def sPut (o i a : E) : S := fun env A => ofE env (a env A) fun v A1 => ofE env (o env A1) fun x A2 => ofE env (i env A2) fun y A3 => ofH env (setIt A3 x y v)
theorem set_lst {x y v : V} {dy dv : D} {i : Nat} {l : List D} (R : Rl K ca F m A H) (rx : Rep K ca F m x (.ref i)) (ry : Rep K ca F m y dy) (rv : Rep K ca F m v dv) (hA : A[i]? = some (.lst l)) (h : setIt A (.ref i) dy dv = some A2) {Dn : Ends} {f : Hp → Prop}
    (k : ∀ H2, Rl K ca F m A2 H2 → Stp F m H F m H2 → f H2) : rSetL x y v H f := by
  unfold setIt at h
  simp only [hA] at h
  cases ry with
  | int j =>
    simp only at h
    cases q : ixN l.length j with
    | none => rw [q] at h; cases h
    | some n =>
      rw [q] at h; cases h
      obtain ⟨a, vs, e, h1, h2, h3⟩ := lst_at R rx hA
      obtain ⟨R2, g2⟩ := lst_put R h1 h2 (h3.set rv n)
      exact ⟨a, vs, j, n, e, rfl, h2, by rw [h3.length]; exact q, k _ R2 g2⟩
  | _ => cases h
theorem set_dic {x y v : V} {dy dv : D} {i : Nat} {t : Bool} {l : List (D × D)} (R : Rl K ca F m A H) (rx : Rep K ca F m x (.ref i)) (ry : Rep K ca F m y dy) (rv : Rep K ca F m v dv) (hA : A[i]? = some (.dic t false l)) (h : setIt A (.ref i) dy dv = some A2) :
    ∃ a H2, x = .ref a ∧ DPut H a y v H2 ∧ Rl K ca F m A2 H2 ∧ Stp F m H F m H2 := by
  unfold setIt at h
  simp only [hA] at h
  split at h
  · rename_i hk
    cases h
    rw [Bool.and_eq_true, decide_eq_true_eq] at hk
    obtain ⟨a, e, ha, r⟩ := R.at hA rx
    cases t with
    | false =>
      obtain ⟨kvs, h1, h2⟩ := r
      cases z : keyK dy with
      | none => simp [keyOk, z] at hk
      | some kk =>
        have e2 := keyK_kD z
        subst e2
        have e3 : y = kV kk := by
          cases kk with
          | inl i => cases ry; rfl
          | inr x => cases ry; rfl
        have h1' : H a = some (.dK kvs) := h1
        obtain ⟨R2, g2⟩ := R.put (u := .dK (putK kvs kk v)) (o' := .dic false false (kput l (kD kk) dv)) ha (fun od w z => by rw [h1'] at z; cases z) ⟨_, upd_same, kput_rep keq_kD rv h2⟩
        exact ⟨a, _, e, .inl ⟨kvs, kk, h1, e3, by rw [h2.length]; exact hk.2, rfl⟩, R2, g2⟩
    | true =>
      obtain ⟨kvs, h1, h2⟩ := r
      cases dy with
      | tup dl =>
          cases z : keysK dl with
        | none => simp [keyOk, z] at hk
        | some ks =>
          obtain ⟨b, e3, h3⟩ := tup_key R ry z
          have e2 := keysK_kT z
          subst e2
          have h1' : H a = some (.dT kvs) := h1
          obtain ⟨R2, g2⟩ := R.put (u := .dT (putK kvs ks v)) (o' := .dic true false (kput l (kT ks) dv)) ha (fun od w z => by rw [h1'] at z; cases z) ⟨_, upd_same, kput_rep keq_kT rv h2⟩
          exact ⟨a, _, e, .inr ⟨kvs, ks, b, h1, e3, h3, by rw [h2.length]; exact hk.2, rfl⟩, R2, g2⟩
      | _ => simp [keyOk] at hk
  · cases h
end
end SM

namespace SM
open PySem L2
open DL (Ex ExK rLenU rAbs rMax2 rMin2 rInt1 rListOf rTupleOf iSeqU rIsiU InC)
section
variable {K : PySem.W.Frag} {ca : CaT} {F F1 F2 H H1 H2 : Hp} {m m1 m2 : List Addr} {A A1 A2 : Hs} {σ : L2.St} {env : Sl} {W : WX} {Q : VK}
variable {ta tb tc te to ti : TE} {a b c o : E} {i : Nat} {d : D} {ts : TA} {as : As} {x : V} {dx : D} {t u : TS} {f g h : S}
/-! ### o[i] = e -/
theorem SimS.pick (h1 : SimS K ca W t g) (h2 : SimS K ca W u h) (k : ∀ env A, f env A = g env A ∨ f env A = h env A) : SimS K ca W (fun D σ H => t D σ H ∨ u D σ H) f := fun F m A σ H env Dn R S p => by
  rcases k env A with q | q
  · rw [q] at p; exact .inl (h1 F m A σ H env Dn R S p)
  · rw [q] at p; exact .inr (h2 F m A σ H env Dn R S p)
def isLst (A : Hs) : D → Bool
  | .ref i => match A[i]? with
    | some (.lst _) => true
    | _ => false
  | _ => false
def sPut1 (w : Bool) (o i a : E) : S := fun env A => ofE env (a env A) fun v A1 => ofE env (o env A1) fun x A2 => ofE env (i env A2) fun y A3 => if isLst A3 x = w then ofH env (setIt A3 x y v) else .stuck
theorem put_pick {o i a : E} (env : Sl) (A : Hs) : sPut o i a env A = sPut1 true o i a env A ∨ sPut o i a env A = sPut1 false o i a env A := by
  unfold sPut sPut1
  cases a env A with
  | stuck => exact .inl rfl
  | exc _ _ => exact .inl rfl
  | ok v A1 =>
    simp only [ofE]
    cases o env A1 with
    | stuck => exact .inl rfl
    | exc _ _ => exact .inl rfl
    | ok x A2 =>
      simp only [ofE]
      cases i env A2 with
      | stuck => exact .inl rfl
      | exc _ _ => exact .inl rfl
      | ok y A3 =>
        simp only [ofE]
        cases q : isLst A3 x with
        | true => exact .inl (by simp)
        | false => exact .inr (by simp)
theorem isLst_at {A : Hs} {x : D} {w : Bool} (h : isLst A x = true) : ∃ i l, x = .ref i ∧ A[i]? = some (.lst l) := by
  cases x with
  | ref i =>
    unfold isLst at h
    cases q : A[i]? with
    | none => simp [q] at h
    | some o =>
      cases o with
      | lst l => exact ⟨i, l, rfl, q⟩
      | dic _ _ _ => simp [q] at h
      | obj _ _ => simp [q] at h
      | nd _ => simp [q] at h
  | _ => cases h
theorem setIt_dic {A A2 : Hs} {x y v : D} (h : setIt A x y v = some A2) (n : isLst A x = false) : ∃ i t l, x = .ref i ∧ A[i]? = some (.dic t false l) := by
  unfold setIt at h
  cases x with
  | ref i =>
    unfold isLst at n
    cases q : A[i]? with
    | none => simp [q] at h
    | some o =>
      cases o with
      | lst l => simp [q] at n
      | dic t lk l =>
        cases lk with
        | false => exact ⟨i, t, l, rfl, q⟩
        | true => simp [q] at h
      | obj _ _ => simp [q] at h
      | nd _ => simp [q] at h
  | _ => simp at h
theorem ss_putL (ho : SimE K ca W to o) (hi : SimE K ca W ti b) (ha : SimE K ca W ta a) : SimS K ca W (tAsg ta (gSub to ti rSetL)) (sPut1 true o b a) := fun F m A σ H env Dn R S p =>
  ofE_bind ha R S p fun F1 m1 A1 H1 v dv R1 g1 S1 rv p1 => ofE_bind ho R1 S1 p1 fun F2 m2 A2 H2 x dx R2 g2 S2 rx p2 => ofE_bind hi R2 S2 p2 fun F3 m3 A3 H3 y dy R3 g3 S3 ry p3 => by
    split at p3
    · rename_i hl
      cases hs : setIt A3 dx dy dv with
      | none => rw [hs] at p3; exact p3.elim
      | some A4 =>
        rw [hs] at p3
        obtain ⟨j, l, rfl, hA⟩ := isLst_at (w := true) hl
        exact set_lst (Dn := Dn) R3 (rx.mono g3.ff g3.mm) ry (rv.mono (g2.trans g3).ff (g2.trans g3).mm) hA hs fun H4 R4 g4 => p3 F3 m3 σ H4 R4 g4 (S3.stp g4)
    · exact p3.elim
theorem ss_putD (ho : SimE K ca W to o) (hi : SimE K ca W ti b) (ha : SimE K ca W ta a) : SimS K ca W (sDPut to ti ta) (sPut1 false o b a) := fun F m A σ H env Dn R S p =>
  ofE_bind ha R S p fun F1 m1 A1 H1 v dv R1 g1 S1 rv p1 => ofE_bind ho R1 S1 p1 fun F2 m2 A2 H2 x dx R2 g2 S2 rx p2 => ofE_bind hi R2 S2 p2 fun F3 m3 A3 H3 y dy R3 g3 S3 ry p3 => by
    split at p3
    · rename_i hl
      cases hs : setIt A3 dx dy dv with
      | none => rw [hs] at p3; exact p3.elim
      | some A4 =>
        rw [hs] at p3
        obtain ⟨j, t, l, rfl, hA⟩ := setIt_dic hs hl
        obtain ⟨a', H4, e, h1, R4, g4⟩ := set_dic R3 (rx.mono g3.ff g3.mm) ry (rv.mono (g2.trans g3).ff (g2.trans g3).mm) hA hs
        exact ⟨a', H4, e, h1, p3 F3 m3 σ H4 R4 g4 (S3.stp g4)⟩
    · exact p3.elim
theorem ss_put (ho : SimE K ca W to o) (hi : SimE K ca W ti b) (ha : SimE K ca W ta a) : SimS K ca W (fun D σ H => tAsg ta (gSub to ti rSetL) D σ H ∨ sDPut to ti ta D σ H) (sPut o b a) := SimS.pick (ss_putL ho hi ha) (ss_putD ho hi ha) put_pick
/-! ### built-ins -/
def c1 (f : D → Hs → RE D) : List D → Hs → RE D := fun ds A => match ds with
  | [d] => f d A
  | _ => .stuck
def c2 (f : D → D → Hs → RE D) : List D → Hs → RE D := fun ds A => match ds with
  | [d, e] => f d e A
  | _ => .stuck
theorem cs_1 {r : List V → Hp → VK → Prop} {f : D → Hs → RE D} (h : ∀ F m A H x dx W σ Q, Rl K ca F m A H → Rep K ca F m x dx → Po K ca (Rep K ca) F m H W σ Q (f dx A) → r [x] H Q) : CbS K ca r (c1 f) := fun F m A H xs ds W σ Q R rs p => by
  match ds, xs, rs, p with
  | [d], _, .cons r1 .nil, p => exact h F m A H _ d W σ Q R r1 p
  | [], _, _, p => exact p.elim
  | _ :: _ :: _, _, _, p => exact p.elim
theorem cs_2 {r : List V → Hp → VK → Prop} {f : D → D → Hs → RE D} (h : ∀ F m A H x y dx dy W σ Q, Rl K ca F m A H → Rep K ca F m x dx → Rep K ca F m y dy → Po K ca (Rep K ca) F m H W σ Q (f dx dy A) → r [x, y] H Q) : CbS K ca r (c2 f) := fun F m A H xs ds W σ Q R rs p => by
  match ds, xs, rs, p with
  | [d, e], _, .cons r1 (.cons r2 .nil), p => exact h F m A H _ _ d e W σ Q R r1 r2 p
  | [], _, _, p => exact p.elim
  | [_], _, _, p => exact p.elim
  | _ :: _ :: _ :: _, _, _, p => exact p.elim
def lenA (A : Hs) (x : D) : Option Nat := match seqL A x with
  | some l => some l.length
  | none => match seqT x with
    | some l => some l.length
    | none => match x with
      | .str z => if z.length ≤ sizeLine then some z.length else none
      | .ref i => match A[i]? with
        | some (.dic false false l) => some l.length
        | _ => none
      | _ => none
def oLen (x : D) (A : Hs) : RE D := match lenA A x with
  | some n => .ok (.int (n : Int)) A
  | none => .stuck
theorem cs_len : CbS K ca (rLenU K) (c1 oLen) := cs_1 fun F m A H x dx W σ Q R rx p => by
  unfold oLen at p
  cases q : lenA A dx with
  | none => rw [q] at p; exact p.elim
  | some n =>
    rw [q] at p
    have hq := po_ok R (Rep.int _) p
    unfold lenA at q
    split at q
    · rename_i l hl
      cases q
      obtain ⟨a, vs, e, h1, h2⟩ := seqL_at R rx hl
      subst e
      exact .inl ⟨_, l.length, rfl, .inl ⟨vs, h1, h2.length.symm⟩, hq⟩
    · split at q
      · rename_i l hl
        cases q
        obtain ⟨a, vs, e, h1, h2⟩ := seqT_at R rx hl
        subst e
        exact .inl ⟨_, l.length, rfl, .inr ⟨vs, h1, h2.length.symm⟩, hq⟩
      · cases rx with
        | str z =>
          simp only at q
          split at q
          · rename_i hz; cases q; exact .inl ⟨_, _, rfl, ⟨hz, rfl⟩, hq⟩
          · cases q
        | ref hm =>
          simp only at q
          split at q
          · rename_i l hA
            cases q
            obtain ⟨a, e, ha, kvs, h1, h2⟩ := R.at hA (.ref hm)
            refine .inr ⟨a, kvs, by rw [e], h1, ?_⟩
            rw [h2.length]; exact hq
          · cases q
        | _ => cases q
def boolsOf : List D → Option (List Bool)
  | [] => some []
  | .bl b :: r => (boolsOf r).map (b :: ·)
  | _ :: _ => none
def intsOf : List D → Option (List Int)
  | [] => some []
  | .int b :: r => (intsOf r).map (b :: ·)
  | _ :: _ => none
theorem boolsOf_eq : ∀ {l : List D} {bs : List Bool}, boolsOf l = some bs → l = bs.map D.bl
  | [], _, h => by cases h; rfl
  | d :: r, bs, h => by
    cases d with
    | bl b =>
      unfold boolsOf at h
      cases q : boolsOf r with
      | none => rw [q] at h; cases h
      | some s => rw [q] at h; cases h; rw [List.map_cons, ← boolsOf_eq q]
    | _ => cases h
theorem intsOf_eq : ∀ {l : List D} {bs : List Int}, intsOf l = some bs → l = bs.map D.int
  | [], _, h => by cases h; rfl
  | d :: r, bs, h => by
    cases d with
    | int b =>
      unfold intsOf at h
      cases q : intsOf r with
      | none => rw [q] at h; cases h
      | some s => rw [q] at h; cases h; rw [List.map_cons, ← intsOf_eq q]
    | _ => cases h
theorem z00 : ∀ bs : List Bool, boolsOf (bs.map D.bl) = some bs
  | [] => rfl
  | b :: r => by rw [List.map_cons]; unfold boolsOf; rw [z00 r]; rfl
theorem z0k : ∀ bs : List Int, intsOf (bs.map D.int) = some bs
  | [] => rfl
  | b :: r => by rw [List.map_cons]; unfold intsOf; rw [z0k r]; rfl
def oAll (x : D) (A : Hs) : RE D := match (seqL A x).bind boolsOf with
  | some bs => .ok (.bl (bs.all id)) A
  | none => .stuck
def oSum (x : D) (A : Hs) : RE D := match (seqL A x).bind intsOf with
  | some ns => .ok (.int ns.sum) A
  | none => .stuck
theorem cs_all : CbS K ca (L2.rAll K) (c1 oAll) := cs_1 fun F m A H x dx W σ Q R rx p => by
  unfold oAll at p
  split at p
  · rename_i bs hb
    obtain ⟨l, h1, h2⟩ := Option.bind_eq_some_iff.mp hb
    obtain ⟨a, vs, e, h3, h4⟩ := seqL_at R rx h1
    have e2 := boolsOf_eq h2
    subst e2
    have e3 := h4.bools
    subst e3 e
    exact ⟨a, bs, rfl, h3, po_ok R (.bl _) p⟩
  · exact p.elim
def oMax2 := oII fun i j => some (.int (if j > i then j else i))
def oMin2 := oII fun i j => some (.int (if j < i then j else i))
theorem cs_max2 : CbS K ca rMax2 (c2 oMax2) := cs_2 fun F m A H x y dx dy W σ Q R rx ry p => by
  cases rx with
  | int i =>
    cases ry with
    | int j => exact ⟨i, j, rfl, po_ok R (.int _) p⟩
    | _ => exact p.elim
  | _ => exact p.elim
def oInt (x : D) (A : Hs) : RE D := match x with
  | .int i => .ok (.int i) A
  | .bl b => .ok (.int (if b then 1 else 0)) A
  | _ => .stuck
def oList (x : D) (A : Hs) : RE D := match seqL A x with
  | some l => alloc A (.lst l)
  | none => match seqT x with
    | some l => alloc A (.lst l)
    | none => .stuck
def oTuple (x : D) (A : Hs) : RE D := match seqL A x with
  | some l => .ok (.tup l) A
  | none => match x with
    | .tup l => .ok (.tup l) A
    | _ => .stuck
theorem cs_tuple : CbS K ca (rTupleOf K) (c1 oTuple) := cs_1 fun F m A H x dx W σ Q R rx p => by
  unfold oTuple at p
  split at p
  · rename_i l hl
    obtain ⟨a, vs, e, h3, h4⟩ := seqL_at R rx hl
    subst e
    refine ⟨a, vs, rfl, .inl ⟨h3, fun q hq => ?_⟩⟩
    obtain ⟨R2, g2⟩ := R.new (u := .tup vs) hq
    exact p _ _ _ _ R2 g2 (.tup upd_same (h4.mono g2.ff g2.mm))
  · cases rx with
    | tup s rs => exact ⟨_, _, rfl, .inr ⟨.inl (.inl (R.fh _ _ s)), po_ok R (.tup s rs) p⟩⟩
    | _ => exact p.elim
/-! ### isinstance -/
/-- the class that a thing is of; os, xs: own classes, own exceptions at hand -/
def kdOf (os xs : List String) (A : Hs) : D → Option String
  | .non => some "NoneType"
  | .bl _ => some "bool"
  | .int _ => some "int"
  | .str _ => some "str"
  | .tup _ => some "tuple"
  | .scr _ => none
  | .exc C => if C ∈ xs then some C else none
  | .ref i => match A[i]? with
    | some (.lst _) => some "list"
    | some (.dic t lk _) => if t && lk then none else some "dict"
    | some (.obj C _) => if C ∈ os then some C else none
    | some (.nd _) => none
    | none => none
  | _ => none
def btn (n : String) : Bool := n == "NoneType" || n == "bool" || n == "int" || n == "str" || n == "tuple" || n == "list" || n == "dict" || n == "ValueError"
def clOf : D → Option String
  | .ty n => if btn n then some n else none
  | .nm C => if btn C then none else some C
  | _ => none
/-- a name's class object -/
def vOf (ca : CaT) (n : String) : Value := if btn n then .type n else .ref (ca n)
def subB (n c : String) : Bool := n == c || n == "bool" && c == "int"
/-- is the class n one of c: by the built-in ones, else by a table -/
def isiOf (tb : List (String × String × Bool)) (n c : String) : Option Bool := if btn n && btn c && n != "ValueError" then some (subB n c) else (tb.find? fun e => e.1 == n && e.2.1 == c).map (·.2.2)
/-- one of some classes -/
def isiAny (tb : List (String × String × Bool)) (n : String) : List D → Option Bool
  | [] => some false
  | c :: r => match clOf c with
    | some k => match isiOf tb n k with
      | some true => some true
      | some false => isiAny tb n r
      | none => none
    | none => none
def isiAll : List D → Bool
  | [] => true
  | c :: r => (clOf c).isSome && isiAll r
def isiD (os xs : List String) (tb : List (String × String × Bool)) (A : Hs) (x c : D) : Option Bool := match kdOf os xs A x with
  | none => none
  | some n => match c with
    | .tup l => if isiAll l then isiAny tb n l else none
    | c => match clOf c with
      | some k => isiOf tb n k
      | none => none
def oIsi (os xs : List String) (tb : List (String × String × Bool)) (x c : D) (A : Hs) : RE D := match isiD os xs tb A x c with
  | some b => .ok (.bl b) A
  | none => .stuck
inductive TbOk (K : PySem.W.Frag) (ca : CaT) : List (String × String × Bool) → Prop
  | nil : TbOk K ca []
  | cons {n c : String} {b : Bool} {r : List (String × String × Bool)} : PySem.W.kitOne K (vOf ca n) (vOf ca c) = some b → TbOk K ca r → TbOk K ca ((n, c, b) :: r)
theorem TbOk.of {tb : List (String × String × Bool)} (h : TbOk K ca tb) {n c : String} {b : Bool} (q : (tb.find? fun e => e.1 == n && e.2.1 == c).map (·.2.2) = some b) : PySem.W.kitOne K (vOf ca n) (vOf ca c) = some b := by
  induction h with
  | nil => cases q
  | cons h1 h2 ih =>
    rename_i n' c' b' r
    rw [List.find?_cons] at q
    cases z : (n' == n && c' == c) with
    | true =>
      simp only [z] at q
      cases q
      rw [Bool.and_eq_true] at z
      rw [← eq_of_beq z.1, ← eq_of_beq z.2]; exact h1
    | false => simp only [z] at q; exact ih q
def btns : List String := ["NoneType", "bool", "int", "str", "tuple", "list", "dict", "ValueError"]
theorem btn_mem {n : String} (h : btn n = true) : n ∈ btns := by
  simp only [btn, Bool.or_eq_true, beq_iff_eq] at h
  simp only [btns, List.mem_cons, List.mem_nil_iff, or_false]
  rcases h with ((((((h | h) | h) | h) | h) | h) | h) | h <;> simp [h]
theorem isi_all : ∀ n ∈ btns, ∀ c ∈ btns, (n != "ValueError") = true → kitB n c = some (subB n c) := by decide +kernel
theorem isi_sub {n c : String} (h1 : btn n = true) (h2 : btn c = true) (h3 : (n != "ValueError") = true) : kitB n c = some (subB n c) := isi_all n (btn_mem h1) c (btn_mem h2) h3
theorem isi_of {tb : List (String × String × Bool)} (h : TbOk K ca tb) {n c : String} {b : Bool} (q : isiOf tb n c = some b) : PySem.W.kitOne K (vOf ca n) (vOf ca c) = some b := by
  unfold isiOf at q
  split at q
  · rename_i z
    rw [Bool.and_eq_true, Bool.and_eq_true] at z
    cases q
    unfold vOf
    rw [if_pos z.1.1, if_pos z.1.2]
    exact kit_ty (isi_sub z.1.1 z.1.2 z.2)
  · exact h.of q
theorem cl_at {y : V} {dy : D} {k : String} (r : Rep K ca F m y dy) (h : clOf dy = some k) : ClsV y (vOf ca k) := by
  cases r with
  | ty n =>
    unfold clOf at h
    simp only at h
    split at h
    · rename_i z; cases h; unfold vOf; rw [if_pos z]; exact .ty _
    · cases h
  | nm C =>
    unfold clOf at h
    simp only at h
    split at h
    · cases h
    · rename_i z; cases h; unfold vOf; rw [if_neg z]; exact .own _
  | _ => cases h
/-- how isinstance sees a thing -/
inductive Sees (K : PySem.W.Frag) (H : Hp) (x : V) (u : Value) : Prop
  | ty : TyX K H x u → Sees K H x u
  | exc {a C : Addr} : x = .ref a → u = .ref C → H a = some (ExK C a) → ExcC K C → Sees K H x u
theorem sees_of {os xs : List String} {x : V} {n : String} (ho : AllC (fun C => InC K (ca C) ∧ btn C = false) os) (hx : AllC (fun C => ExcC K (ca C) ∧ btn C = false) xs) (R : Rl K ca F m A H) (rx : Rep K ca F m x dx) (h : kdOf os xs A dx = some n) : Sees K H x (vOf ca n) := by
  cases rx with
  | non => cases h; exact .ty (.base .non)
  | bl b => cases h; exact .ty (.base (.bl b))
  | int b => cases h; exact .ty (.base (.int b))
  | str b => cases h; exact .ty (.base (.str b))
  | tup s r => cases h; exact .ty (.base (.tup (R.fh _ _ s)))
  | exc s =>
    rename_i a C
    unfold kdOf at h
    simp only at h
    split at h
    · rename_i z; cases h
      have k := AllC.of hx z
      refine .exc rfl ?_ (R.fh _ _ s) k.1
      unfold vOf; rw [k.2]; rfl
    · cases h
  | ref hm =>
    unfold kdOf at h
    simp only at h
    split at h
    · rename_i l hA
      cases h
      obtain ⟨a, vs, e, h1, h2, h3⟩ := lst_at R (.ref hm) hA
      rw [e]
      exact .ty (.base (.lst h2))
    · rename_i t lk l hA
      split at h
      · cases h
      · rename_i z
        cases h
        obtain ⟨a, e, ha, r⟩ := R.at hA (.ref hm)
        rw [e]
        cases t with
        | false =>
          obtain ⟨kvs, h1, _⟩ := r
          cases lk with
          | false => exact .ty (.base (.dK h1))
          | true => obtain ⟨od, h1⟩ := h1; exact .ty (.fDict h1)
        | true =>
          obtain ⟨kvs, h1, _⟩ := r
          cases lk with
          | false => exact .ty (.base (.dT h1))
          | true => exact absurd rfl z
    · rename_i C fs hA
      split at h
      · rename_i z
        cases h
        obtain ⟨a, e, ha, dxx, kvs, h1, _⟩ := R.at hA (.ref hm)
        rw [e]
        have k := AllC.of ho z
        have i := k.1
        refine .ty (.base ?_)
        unfold vOf
        rw [k.2]
        exact .ins h1 i.cl i.ha i.hn i.ht i.hm
      · cases h
    · cases h
    · cases h
  | _ => cases h
theorem isiAny_kit {tb : List (String × String × Bool)} (ht : TbOk K ca tb) {n : String} : ∀ {vs : List V} {l : List D} {b : Bool}, RepL K ca F m vs l → isiAll l = true → isiAny tb n l = some b → ∃ us, Paired ClsV vs us ∧ PySem.W.kitAny K (vOf ca n) us = some b
  | _, _, _, .nil, _, h => by cases h; exact ⟨[], .nil, kitAny_nil⟩
  | _, _, _, .cons r rs, ha, h => by
    unfold isiAll at ha
    rw [Bool.and_eq_true] at ha
    unfold isiAny at h
    cases q : clOf _ with
    | none => rw [q] at h; cases h
    | some k =>
      rw [q] at h
      simp only at h
      cases q2 : isiOf tb n k with
      | none => rw [q2] at h; cases h
      | some c =>
        rw [q2] at h
        have k1 := isi_of ht q2
        cases c with
        | true =>
          cases h
          -- the rest only has to be classes
          have rest : ∀ {vs : List V} {l : List D}, RepL K ca F m vs l → isiAll l = true → ∃ us, Paired ClsV vs us := by
            intro vs l
            induction l generalizing vs with
            | nil => intro r _; cases r; exact ⟨[], .nil⟩
            | cons d l ih =>
              intro r hl
              cases r with
              | cons r1 r2 =>
                unfold isiAll at hl
                rw [Bool.and_eq_true] at hl
                obtain ⟨us, hus⟩ := ih r2 hl.2
                cases z : clOf d with
                | none => rw [z] at hl; cases hl.1
                | some kk => exact ⟨_ :: us, .cons (cl_at r1 z) hus⟩
          obtain ⟨us, hus⟩ := rest rs ha.2
          exact ⟨_ :: us, .cons (cl_at r q) hus, kitAny_cons k1 (fun z => by cases z) fun _ => rfl⟩
        | false =>
          obtain ⟨us, h1, h2⟩ := isiAny_kit ht rs ha.2 h
          exact ⟨_ :: us, .cons (cl_at r q) h1, kitAny_cons k1 (fun _ => h2) fun z => by cases z⟩
/-- isinstance(x, c) -/
theorem cs_isi {os xs : List String} {tb : List (String × String × Bool)} (ho : AllC (fun C => InC K (ca C) ∧ btn C = false) os) (hx : AllC (fun C => ExcC K (ca C) ∧ btn C = false) xs) (ht : TbOk K ca tb) : CbS K ca (rIsiU K) (c2 (oIsi os xs tb)) := cs_2 fun F m A H x y dx dy W σ Q R rx ry p => by
  unfold oIsi at p
  cases q : isiD os xs tb A dx dy with
  | none => rw [q] at p; exact p.elim
  | some b =>
    rw [q] at p
    have hq := po_ok R (Rep.bl _) p
    unfold isiD at q
    cases z : kdOf os xs A dx with
    | none => rw [z] at q; cases q
    | some n =>
      rw [z] at q
      have sees := sees_of ho hx R rx z
      have one : ∀ k, clOf dy = some k → isiOf tb n k = some b → rIsiU K [x, y] H Q := fun k h1 h2 => by
        have kit := isi_of ht h2
        have cl := cl_at ry h1
        cases sees with
        | ty t => exact .inl ⟨x, y, _, _, b, rfl, cl, t, kit, hq⟩
        | exc e1 e2 e3 e4 =>
          subst e1
          rw [e2] at kit
          exact .inr (.inr (.inl ⟨_, _, y, _, b, rfl, e3, e4, cl, kit, hq⟩))
      cases ry with
      | tup s rs =>
        simp only at q
        split at q
        · rename_i ha
          obtain ⟨us, h1, h2⟩ := isiAny_kit ht rs ha q
          cases sees with
          | ty t => exact .inr (.inl ⟨x, _, _, _, us, b, rfl, R.fh _ _ s, h1, t, h2, hq⟩)
          | exc e1 e2 e3 e4 =>
            subst e1
            rw [e2] at h2
            exact .inr (.inr (.inr ⟨_, _, _, _, us, b, rfl, e3, e4, R.fh _ _ s, h1, h2, hq⟩))
        · cases q
      | ty n' =>
        simp only at q
        split at q
        · rename_i k hk; exact one k hk q
        · cases q
      | nm n' =>
        simp only at q
        split at q
        · rename_i k hk; exact one k hk q
        · cases q
      | _ => simp [clOf] at q
end
end SM

namespace L2
open PySem PySem.Spec PyProof.Rows
end L2
namespace SM
open PySem L2
open DL (Ex ExK rInt1 iSeqU rng rngC rng_len rngC_len rng_get rngC_get enumD enumD_len enumD_get zipD)
section
variable {K : PySem.W.Frag} {ca : CaT} {F F1 F2 H H1 H2 : Hp} {m m1 m2 : List Addr} {A A1 A2 : Hs} {σ : L2.St} {env : Sl} {W : WX} {Q : VK}
variable {ta tb tc te to ti : TE} {a b c o : E} {i : Nat} {d : D} {ts : TA} {as : As} {x : V} {dx : D}
/-! ### what is walked -/
theorem SimI.pick {t u : TI} {f g h : Sl → Hs → RE Wk} (h1 : SimI K ca W t g) (h2 : SimI K ca W u h) (k : ∀ env A, f env A = g env A ∨ f env A = h env A) : SimI K ca W (fun σ H R => t σ H R ∨ u σ H R) f := fun F m A σ H env Q R S p => by
  rcases k env A with q | q
  · rw [q] at p; exact .inl (h1 F m A σ H env Q R S p)
  · rw [q] at p; exact .inr (h2 F m A σ H env Q R S p)
def tt : Hs → Prop := fun _ => True
/-- the signs of a text -/
def signsOf (z : Str) : List D := z.cps.toList.map fun c => .str ⟨#[c]⟩
def wkL (A : Hs) (x : D) : Option Wk := match x with
  | .ref i => match A[i]? with
    | some (.lst l) => some ⟨l, fun A' => A'[i]? = some (.lst l)⟩
    | _ => none
  | .scr l => some ⟨l, tt⟩
  | _ => none
def wkT (_ : Hs) (x : D) : Option Wk := match x with
  | .tup l => some ⟨l, tt⟩
  | .wt l => some ⟨l, tt⟩
  | _ => none
def wkS (_ : Hs) (x : D) : Option Wk := match x with
  | .str z => some ⟨signsOf z, tt⟩
  | _ => none
/-- a list, a tuple, a text -/
def wkA (A : Hs) (x : D) : Option Wk := match x with
  | .ref _ => wkL A x
  | .scr _ => wkL A x
  | .tup _ => wkT A x
  | .wt _ => wkT A x
  | _ => wkS A x
def wOf (f : Hs → D → Option Wk) (a : E) : Sl → Hs → RE Wk := fun env A => (a env A).bind fun x A1 => match f A1 x with
  | some k => .ok k A1
  | none => .stuck
def wSeq (a : E) : Sl → Hs → RE Wk := wOf wkA a
theorem wOf_bind {f : Hs → D → Option Wk} {R' : It → Hp → Prop} {T : VK} (h : SimE K ca W te a) (R : Rl K ca F m A H) (S : Slt K ca F m σ env) (p : PoW K ca F m H W σ R' (wOf f a env A))
    (k : ∀ F1 m1 A1 H1 x d kk, Rl K ca F1 m1 A1 H1 → Rep K ca F1 m1 x d → f A1 d = some kk → PoW K ca F1 m1 H1 W σ R' (.ok kk A1) → T x H1) : te σ H T := by
  refine h F m A σ H env T R S ?_
  unfold wOf at p
  cases q : a env A with
  | ok d A1 =>
    rw [q] at p
    intro v F1 m1 H1 R1 g1 r
    simp only [RE.bind] at p
    cases z : f A1 d with
    | none => rw [z] at p; exact p.elim
    | some kk =>
      rw [z] at p
      exact k F1 m1 A1 H1 v d kk R1 r z fun J F' m' H' R2 g2 hh => p J F' m' H' R2 (g1.trans g2) hh
  | exc C A1 => rw [q] at p; exact p
  | stuck => rw [q] at p; exact p
/-- the list at a, as it is at each turn -/
theorem walk_live {a : Addr} {n : Nat} : Walk (Itl K a) n (fun H => ∃ vs, SqL K H a vs ∧ vs.length = n) (fun i H x H' => H' = H ∧ ∀ xs, SqL K H a xs → xs[i]? = some x) :=
  ⟨fun i _ hi ⟨vs, q, e⟩ => ⟨vs, vs[i]'(by omega), q, by simp [show i < vs.length by omega]⟩, fun _ ⟨vs, q, e⟩ => ⟨vs, q, by omega⟩, fun _ _ _ _ _ _ y => y⟩
theorem sw_list (h : SimE K ca W te a) : SimI K ca W (iList K te) (wOf wkL a) := fun F m A σ H env Q R S p => wOf_bind h R S p fun F1 m1 A1 H1 x d kk R1 r hk p1 => by
  cases r with
  | ref hm =>
    rename_i aa i
    unfold wkL at hk
    simp only at hk
    cases hA : A1[i]? with
    | none => simp [hA] at hk
    | some o =>
      cases o with
      | lst l =>
        simp only [hA, Option.some.injEq] at hk
        subst hk
        obtain ⟨a', vs, e, h1, h2, h3⟩ := lst_at R1 (.ref hm) hA
        cases e
        refine ⟨aa, rfl, ⟨vs, .inl (.inl h2)⟩, p1 _ F1 m1 H1 R1 Stp.refl ⟨_, _, walk_live, fun F2 m2 A2 H2 hg R2 g2 => ?_, fun i' d' x' F2 m2 A2 H2 H3 e hg R2 g2 y => .inl ⟨y.1, ?_⟩⟩⟩
        · obtain ⟨a2, vs2, e2, _, h4, h5⟩ := lst_at R2 (.ref (g2.mm.get h1)) hg
          cases e2
          exact ⟨vs2, .inl (.inl h4), h5.length⟩
        · obtain ⟨a2, vs2, e2, _, h4, h5⟩ := lst_at R2 (.ref (g2.mm.get h1)) hg
          cases e2
          obtain ⟨z, z1, z2⟩ := h5.get e
          have := y.2 vs2 (.inl (.inl h4))
          rw [z1] at this; cases this; exact z2
      | dic _ _ _ => simp [hA] at hk
      | obj _ _ => simp [hA] at hk
      | nd _ => simp [hA] at hk
  | scr s rs =>
    cases hk
    refine ⟨_, rfl, ⟨_, R1.fh.l s⟩, p1 _ F1 m1 H1 R1 Stp.refl ⟨_, _, walk_live, fun F2 m2 A2 H2 hg R2 g2 => ⟨_, R2.fh.l (g2.ff.l s), rs.length⟩, fun i' d' x' F2 m2 A2 H2 H3 e hg R2 g2 y => .inl ⟨y.1, ?_⟩⟩⟩
    obtain ⟨z, z1, z2⟩ := rs.get e
    have := y.2 _ (R2.fh.l (g2.ff.l s))
    rw [z1] at this; cases this; exact z2.mono g2.ff g2.mm
  | _ => cases hk
theorem sw_tup (h : SimE K ca W te a) : SimI K ca W (iTup K te) (wOf wkT a) := fun F m A σ H env Q R S p => wOf_bind h R S p fun F1 m1 A1 H1 x d kk R1 r hk p1 => by
  have main : ∀ {aa : Addr} {vs : List V} {l : List D}, SqT K F1 aa vs → RepL K ca F1 m1 vs l → kk = ⟨l, tt⟩ → x = .ref aa → ∃ a, x = .ref a ∧ (∃ xs, SqT K H1 a xs) ∧ Q (Itt K a) H1 := fun {aa vs l} s rs e ex => by
    subst e
    refine ⟨aa, ex, ⟨vs, R1.fh.t s⟩, p1 _ F1 m1 H1 R1 Stp.refl ⟨fun H => SqT K H aa vs, YAt vs, by rw [show (Wk.mk l _).ds.length = vs.length from rs.length.symm]; exact walk_tup, fun F2 m2 A2 H2 hg R2 g2 => R2.fh.t (g2.ff.t s), fun i' d' x' F2 m2 A2 H2 H3 e hg R2 g2 y => .inl ⟨y.1, ?_⟩⟩⟩
    obtain ⟨z, z1, z2⟩ := rs.get e
    have := y.2
    rw [z1] at this; cases this; exact z2.mono g2.ff g2.mm
  cases r with
  | tup s rs => cases hk; exact main (.inl (.inl s)) rs rfl rfl
  | wt s rs => cases hk; exact main s rs rfl rfl
  | _ => cases hk
theorem sw_str (h : SimE K ca W te a) : SimI K ca W (iStr te) (wOf wkS a) := fun F m A σ H env Q R S p => wOf_bind h R S p fun F1 m1 A1 H1 x d kk R1 r hk p1 => by
  cases r with
  | str z =>
    cases hk
    refine ⟨z, rfl, p1 _ F1 m1 H1 R1 Stp.refl ⟨fun _ => True, (fun i H v H' => H' = H ∧ ∃ c, z.cps[i]? = some c ∧ v = .str ⟨#[c]⟩), by rw [show (Wk.mk (signsOf z) _).ds.length = z.cps.size by unfold signsOf; simp]; exact walk_str, fun _ _ _ _ _ _ _ => trivial, fun i' d' x' F2 m2 A2 H2 H3 e hg R2 g2 y => .inl ⟨y.1, ?_⟩⟩⟩
    obtain ⟨_, c, h1, h2⟩ := y
    have e' : (signsOf z)[i']? = some d' := e
    unfold signsOf at e'
    rw [List.getElem?_map, Array.getElem?_toList, h1] at e'
    cases e'
    rw [h2]
    exact .str _
  | _ => cases hk
theorem wOf_pick {f g h : Hs → D → Option Wk} {a : E} (k : ∀ A x, f A x = g A x ∨ f A x = h A x) (env : Sl) (A : Hs) : wOf f a env A = wOf g a env A ∨ wOf f a env A = wOf h a env A := by
  unfold wOf
  cases a env A with
  | stuck => exact .inl rfl
  | exc _ _ => exact .inl rfl
  | ok x A1 =>
    simp only [RE.bind]
    rcases k A1 x with q | q
    · rw [q]; exact .inl rfl
    · rw [q]; exact .inr rfl
def wkTS (A : Hs) (x : D) : Option Wk := match x with
  | .tup _ => wkT A x
  | .wt _ => wkT A x
  | _ => wkS A x
theorem sw_seq (h : SimE K ca W te a) : SimI K ca W (iSeqU K te) (wSeq a) := SimI.pick (sw_list h) (SimI.pick (sw_tup h) (sw_str h) (wOf_pick (f := wkTS) fun A x => by cases x <;> first | exact .inl rfl | exact .inr rfl)) (wOf_pick fun A x => by cases x <;> first | exact .inl rfl | exact .inr rfl)
/-! ranges -/
def wAs (f : List D → Option Wk) (as : As) : Sl → Hs → RE Wk := fun env A => (as env A).bind fun ds A1 => match f ds with
  | some k => .ok k A1
  | none => .stuck
theorem wAs_bind {f : List D → Option Wk} {R' : It → Hp → Prop} {T : List V → Hp → Prop} (h : SimA K ca W ts as) (R : Rl K ca F m A H) (S : Slt K ca F m σ env) (p : PoW K ca F m H W σ R' (wAs f as env A))
    (k : ∀ F1 m1 A1 H1 x d kk, Rl K ca F1 m1 A1 H1 → RepL K ca F1 m1 x d → f d = some kk → PoW K ca F1 m1 H1 W σ R' (.ok kk A1) → T x H1) : ts σ H T := by
  refine h F m A σ H env T R S ?_
  unfold wAs at p
  cases q : as env A with
  | ok d A1 =>
    rw [q] at p
    intro v F1 m1 H1 R1 g1 r
    simp only [RE.bind] at p
    cases z : f d with
    | none => rw [z] at p; exact p.elim
    | some kk =>
      rw [z] at p
      exact k F1 m1 A1 H1 v d kk R1 r z fun J F' m' H' R2 g2 hh => p J F' m' H' R2 (g1.trans g2) hh
  | exc C A1 => rw [q] at p; exact p
  | stuck => rw [q] at p; exact p
def big (i : Int) : Prop := -(2 ^ 62) ≤ i ∧ i < 2 ^ 62
def rgL (lo c : Int) (n : Nat) : List D := (List.range n).map fun i => .int (lo + (i : Nat) * c)
theorem rgL_get {lo c : Int} {n i : Nat} {d : D} (h : (rgL lo c n)[i]? = some d) : d = .int (lo + (i : Nat) * c) ∧ i < n := by
  unfold rgL at h
  rw [List.getElem?_map] at h
  by_cases q : i < n
  · rw [List.getElem?_range q] at h; cases h; exact ⟨rfl, q⟩
  · rw [List.getElem?_eq_none (by simpa using Nat.le_of_not_lt q)] at h; cases h
theorem rgL_len {lo c : Int} {n : Nat} : (rgL lo c n).length = n := by unfold rgL; simp
open Classical in
noncomputable def rg1 : List D → Option Wk
  | [.int j] => if big j then some ⟨rgL 0 1 j.toNat, tt⟩ else none
  | _ => none
open Classical in
noncomputable def rg2 : List D → Option Wk
  | [.int i, .int j] => if big i ∧ big j then some ⟨rgL i 1 (j - i).toNat, tt⟩ else none
  | _ => none
def cnt (i j c : Int) : Nat := (if i < j then (j - i - 1) / c + 1 else 0).toNat
open Classical in
noncomputable def rg3 : List D → Option Wk
  | [.int i, .int j, .int c] => if -(2 ^ 60) ≤ i ∧ i < 2 ^ 60 ∧ -(2 ^ 60) ≤ j ∧ j < 2 ^ 60 ∧ 0 < c ∧ c < 1000000 then some ⟨rgL i c (cnt i j c), tt⟩ else none
  | _ => none
theorem sw_r1 (h : SimA K ca W ts as) : SimI K ca W (iRng1 ts) (wAs rg1 as) := fun F m A σ H env Q R S p => wAs_bind h R S p fun F1 m1 A1 H1 x d kk R1 r hk p1 => by
  match d, x, r, hk with
  | [.int j], _, .cons (.int _) .nil, hk =>
    unfold rg1 at hk
    simp only at hk
    split at hk
    · rename_i hb
      cases hk
      refine ⟨j, rfl, hb.1, hb.2, p1 _ F1 m1 H1 R1 Stp.refl ⟨fun _ => True, YFn fun i => .int (0 + i), by rw [show (Wk.mk (rgL 0 1 j.toNat) _).ds.length = j.toNat from rgL_len]; exact walk_range, fun _ _ _ _ _ _ _ => trivial, fun i' d' x' F2 m2 A2 H2 H3 e hg R2 g2 y => .inl ⟨y.1, ?_⟩⟩⟩
      obtain ⟨e1, _⟩ := rgL_get e
      rw [y.2, e1, Int.mul_one]; exact .int _
    · cases hk
/-! enumerate, zip -/
def enumL (l : List D) : List D := l.zipIdx.map fun p => .tup [.int (p.2 : Nat), p.1]
theorem enumL_len {l : List D} : (enumL l).length = l.length := by simp [enumL]
theorem enumL_get {l : List D} {i : Nat} {d : D} (h : (enumL l)[i]? = some d) : ∃ x, l[i]? = some x ∧ d = .tup [.int (i : Nat), x] := by
  unfold enumL at h
  rw [List.getElem?_map, List.getElem?_zipIdx] at h
  cases q : l[i]? with
  | none => rw [q] at h; cases h
  | some x => rw [q] at h; simp at h; exact ⟨x, rfl, h.symm⟩
def wkE (A : Hs) (x : D) : Option Wk := (wkL A x).map fun k => ⟨enumL k.ds, k.gd⟩
theorem walk_enumL {a : Addr} {n : Nat} : Walk (Ite K a) n (fun H => ∃ vs, SqL K H a vs ∧ vs.length = n) (fun i H v H' => ∃ T x, v = .ref T ∧ H T = none ∧ H' = upd H T (.tup [.int (i : Nat), x]) ∧ ∀ xs, SqL K H a xs → xs[i]? = some x) :=
  ⟨fun i _ hi ⟨vs, q, e⟩ => ⟨vs, vs[i]'(by omega), q, by simp [show i < vs.length by omega]⟩, fun _ ⟨vs, q, e⟩ => ⟨vs, q, by omega⟩, fun _ _ _ _ _ _ y => y⟩
theorem sw_enum (h : SimE K ca W te a) : SimI K ca W (iEnum K (tCons te tNil)) (wOf wkE a) := fun F m A σ H env Q R S p => wOf_bind h R S p fun F1 m1 A1 H1 x d kk R1 r hk p1 => by
  cases r with
  | ref hm =>
    rename_i aa i
    unfold wkE wkL at hk
    simp only at hk
    cases hA : A1[i]? with
    | none => simp [hA] at hk
    | some o =>
      cases o with
      | lst l =>
        simp only [hA, Option.map, Option.some.injEq] at hk
        subst hk
        obtain ⟨a', vs, e, h1, h2, h3⟩ := lst_at R1 (.ref hm) hA
        cases e
        refine ⟨aa, vs, rfl, .inl (.inl h2), p1 _ F1 m1 H1 R1 Stp.refl ⟨_, _, walk_enumL, fun F2 m2 A2 H2 hg R2 g2 => ?_, fun i' d' x' F2 m2 A2 H2 H3 e hg R2 g2 y => .inr (.inl ?_)⟩⟩
        · obtain ⟨a2, vs2, e2, _, h4, h5⟩ := lst_at R2 (.ref (g2.mm.get h1)) hg
          cases e2
          exact ⟨vs2, .inl (.inl h4), by rw [h5.length]; exact enumL_len.symm⟩
        · obtain ⟨a2, vs2, e2, _, h4, h5⟩ := lst_at R2 (.ref (g2.mm.get h1)) hg
          cases e2
          obtain ⟨T, z, y1, y2, y3, y4⟩ := y
          obtain ⟨dx, q1, q2⟩ := enumL_get e
          obtain ⟨w, w1, w2⟩ := h5.get q1
          have := y4 vs2 (.inl (.inl h4))
          rw [w1] at this; cases this
          exact ⟨T, _, _, q2, y1, y2, y3, .cons (.int _) (.cons w2 .nil)⟩
      | dic _ _ _ => simp [hA] at hk
      | obj _ _ => simp [hA] at hk
      | nd _ => simp [hA] at hk
  | scr s rs =>
    cases hk
    refine ⟨_, _, rfl, R1.fh.l s, p1 _ F1 m1 H1 R1 Stp.refl ⟨_, _, walk_enumL, fun F2 m2 A2 H2 hg R2 g2 => ⟨_, R2.fh.l (g2.ff.l s), by rw [rs.length]; exact enumL_len.symm⟩, fun i' d' x' F2 m2 A2 H2 H3 e hg R2 g2 y => .inr (.inl ?_)⟩⟩
    obtain ⟨T, z, y1, y2, y3, y4⟩ := y
    obtain ⟨dx, q1, q2⟩ := enumL_get e
    obtain ⟨w, w1, w2⟩ := rs.get q1
    have := y4 _ (R2.fh.l (g2.ff.l s))
    rw [w1] at this; cases this
    exact ⟨T, _, _, q2, y1, y2, y3, .cons (.int _) (.cons (w2.mono g2.ff g2.mm) .nil)⟩
  | _ => cases hk

/-! ### methods of lists -/
def eBL (o : D → List D → Hs → RE D) (a : E) (as : As) : E := fun env A => (a env A).bind fun x A1 => if (seqL A1 x).isSome then (as env A1).bind fun ds A2 => o x ds A2 else .stuck
def eBL0 (o : D → Hs → RE D) (a : E) : E := fun env A => (a env A).bind fun x A1 => if (seqL A1 x).isSome then o x A1 else .stuck
def MbS (K : PySem.W.Frag) (ca : CaT) (r : V → List V → Hp → VK → Prop) (o : D → List D → Hs → RE D) : Prop := ∀ F m A H x dx vs ds W σ Q, Rl K ca F m A H → Rep K ca F m x dx → RepL K ca F m vs ds → Po K ca (Rep K ca) F m H W σ Q (o dx ds A) → r x vs H Q
theorem tyL_at {A : Hs} (R : Rl K ca F m A H) (r : Rep K ca F m x dx) (h : (seqL A dx).isSome = true) : tyV K "list" x H := by
  obtain ⟨l, hl⟩ := Option.isSome_iff_exists.mp h
  obtain ⟨a, vs, e, h1, h2⟩ := seqL_at R r hl
  subst e
  exact .inl ⟨rfl, vs, h1⟩
theorem se_bl_ {r : V → List V → Hp → VK → Prop} {o : D → List D → Hs → RE D} (h : MbS K ca r o) (ha : SimE K ca W ta a) (hs : SimA K ca W ts as) : SimE K ca W (tBM K "list" r ta ts) (eBL o a as) := fun F m A σ H env Q R S p =>
  ha.bind R S p fun F1 m1 A1 H1 x dx R1 g1 S1 rx p1 => by
    by_cases q : (seqL A1 dx).isSome = true
    · rw [if_pos q] at p1
      exact ⟨tyL_at R1 rx q, hs.bind R1 S1 p1 fun F2 m2 A2 H2 vs ds R2 g2 S2 rs p2 => h F2 m2 A2 H2 x dx vs ds W σ Q R2 (rx.mono g2.ff g2.mm) rs p2⟩
    · rw [if_neg q] at p1; exact p1.elim
/-- the list that stands at a place -/
def lstAt (A : Hs) : D → Option (Nat × List D)
  | .ref i => match A[i]? with
    | some (.lst l) => some (i, l)
    | _ => none
  | _ => none
theorem lstAt_at {A : Hs} {l : List D} (h : lstAt A dx = some (i, l)) : dx = .ref i ∧ A[i]? = some (.lst l) := by
  cases dx with
  | ref j =>
    unfold lstAt at h
    cases q : A[j]? with
    | none => simp [q] at h
    | some o =>
      cases o with
      | lst l' => simp [q] at h; obtain ⟨rfl, rfl⟩ := h; exact ⟨rfl, q⟩
      | dic _ _ _ => simp [q] at h
      | obj _ _ => simp [q] at h
      | nd _ => simp [q] at h
  | _ => cases h
theorem po_put {v : V} {d : D} {a : Addr} {vs vs' : List V} {l' : List D} (R : Rl K ca F m A H) (ha : m[i]? = some a) (h1 : H a = some (.lst vs)) (r : RepL K ca F m vs' l') (rv : Rep K ca F m v d) (p : Po K ca (Rep K ca) F m H W σ Q (.ok d (A.set i (.lst l')))) : Q v (upd H a (.lst vs')) := by
  obtain ⟨R2, g2⟩ := lst_put R ha h1 r
  exact p _ _ _ _ R2 g2 rv
def oAppend (x : D) (ds : List D) (A : Hs) : RE D := match lstAt A x, ds with
  | some (i, l), [d] => if l.length < sizeLine then .ok .non (A.set i (.lst (l ++ [d]))) else .stuck
  | _, _ => .stuck
theorem ms_append : MbS K ca rAppend oAppend := fun F m A H x dx vs ds W σ Q R rx rs p => by
  unfold oAppend at p
  split at p
  · rename_i i l d hA
    split at p
    · rename_i hl
      obtain ⟨e, hA2⟩ := lstAt_at hA
      subst e
      obtain ⟨a, vs', e, h1, h2, h3⟩ := lst_at R rx hA2
      match vs, rs with
      | [y], .cons r1 .nil => exact ⟨a, vs', y, e, rfl, h2, by rw [h3.length]; exact hl, po_put R h1 h2 (h3.append (.cons r1 .nil)) .non p⟩
    · exact p.elim
  · exact p.elim
def oExtend (x : D) (ds : List D) (A : Hs) : RE D := match lstAt A x, ds with
  | some (i, l), [d] => match lstAt A d with
    | some (_, k) => if l.length + k.length ≤ sizeLine then .ok .non (A.set i (.lst (l ++ k))) else .stuck
    | none => match d with
      | .tup k => if l.length + k.length ≤ sizeLine then .ok .non (A.set i (.lst (l ++ k))) else .stuck
      | _ => .stuck
  | _, _ => .stuck
def oPopAt (x : D) (ds : List D) (A : Hs) : RE D := match lstAt A x, ds with
  | some (i, l), [.int j] => if -(2 ^ 63) ≤ j ∧ j < 2 ^ 63 then match seqIndex? j l.length with
      | some k => match l[k]? with
        | some d => .ok d (A.set i (.lst (l.eraseIdx k)))
        | none => .stuck
      | none => .stuck
    else .stuck
  | _, _ => .stuck
def oClear (x : D) (A : Hs) : RE D := match lstAt A x with
  | some (i, _) => .ok .non (A.set i (.lst []))
  | none => .stuck
/-- bs.count(c), bs.index(c), of truths -/
def oCount (x : D) (ds : List D) (A : Hs) : RE D := match (seqL A x).bind boolsOf, ds with
  | some bs, [.bl c] => .ok (.int (bs.count c : Nat)) A
  | _, _ => .stuck
end
end SM

namespace SM
open PySem L2
open DL (Ex ExK rJoin rIdxS)
section
variable {K : PySem.W.Frag} {ca : CaT} {F F1 F2 H H1 H2 : Hp} {m m1 m2 : List Addr} {A A1 A2 : Hs} {σ : L2.St} {env : Sl} {W : WX} {Q : VK}
variable {ta tb tc te to ti : TE} {a b c o : E} {i : Nat} {d : D} {ts : TA} {as : As} {x : V} {dx : D}
/-! ### methods of texts, one argument -/
/-! ### methods of dicts -/
def isDic (A : Hs) (x : D) : Bool := (dicAt A x).isSome
def getD (A : Hs) (x y z : D) : Option D := match dicAt A x with
  | some (t, l) => if keyOk t y then some ((kget l y).getD z) else none
  | none => none
def ofO {α : Type} (A : Hs) : Option α → RE α
  | some d => .ok d A
  | none => .stuck
/-- d.get(y, z) -/
def eGet2 (o i e : E) : E := fun env A => (o env A).bind fun x A1 => if isDic A1 x then (i env A1).bind fun y A2 => (e env A2).bind fun z A3 => ofO A3 (getD A3 x y z) else .stuck
/-! ### a dict of the written part -/
inductive TabOk (K : PySem.W.Frag) (w : World) (da : Addr) : List (String × Int) → Prop
  | nil : TabOk K w da []
  | cons {k : String} {k' : Str} {n : Int} {r : List (String × Int)} : k' = fS k → KDct K w da k' (.int n) → TabOk K w da r → TabOk K w da ((k, n) :: r)
theorem TabOk.of {w : World} {da : Addr} {tb : List (String × Int)} (h : TabOk K w da tb) {z : Str} {n : String × Int} (q : (tb.find? fun e => decide (fS e.1 = z)) = some n) : KDct K w da z (.int n.2) := by
  induction h with
  | nil => cases q
  | cons e h1 h2 ih =>
    rename_i k k' n' r
    rw [List.find?_cons] at q
    by_cases c : fS k = z
    · simp only [c, decide_true] at q
      cases q
      rw [← c, ← e]; exact h1
    · simp only [c, decide_false] at q
      exact ih q
end
end SM

namespace DL
open PySem L2
theorem room65w {k : Nat} {A : Around} (r : Room k A) : A.units + 1 < cLine := by have := r.un; omega
end DL
namespace SM
open PySem L2
open DL (Ex ExK)
/-- a written text -/
def dS (s : String) : D := .str (fS s)
section
variable {K : PySem.W.Frag} {ca : CaT} {F F1 F2 H H1 H2 : Hp} {m m1 m2 : List Addr} {A A1 A2 A3 : Hs} {σ : L2.St} {env : Sl} {W : WX} {Q : VK}
variable {ta tb tc te to ti tv : TE} {a b c o v : E} {i : Nat} {d : D} {ts : TA} {as : As} {x : V} {dx : D} {cs : List String}
theorem se_strS {x : Str} {s : String} (h : x = fS s) : SimE K ca W (tC (.str x)) (eC (dS s)) := se_c fun _ _ => by subst h; exact .str _
theorem se_rev (ha : SimE K ca W ta a) : SimE K ca W (tRevL K ta) (eUn oRev a) := fun F m A σ H env Q R S p =>
  ha.bind R S p fun F1 m1 A1 H1 x dx R1 g1 S1 rx p1 => by
    unfold oRev at p1
    split at p1
    · rename_i l hl
      obtain ⟨aa, vs, e, h1, h2⟩ := seqL_at R1 rx hl
      exact ⟨aa, vs, e, h1, fun q hq => po_alloc (o := .lst l.reverse) R1 hq ⟨_, upd_same, (h2.mono (Ex.refl _) ⟨_, rfl⟩).reverse⟩ p1⟩
    · exact p1.elim
/-- xs or e, xs a list -/
def eOrL (a b : E) : E := fun env A => (a env A).bind fun x A1 => match seqL A1 x with
  | some l => if l.isEmpty then b env A1 else .ok x A1
  | none => .stuck
/-- a, b = a list -/
def gL (gs : List G) : G := fun d env A => match seqL A d with
  | some ds => gAll gs ds env A
  | none => none
theorem sg_lst {gs : TGs} {fs : List G} {js : List Nat} {n : Nat} (h : SimGs K ca gs fs js) (hn : fs.length = n) : SimG K ca (gLst K n gs) (gL fs) js := fun F m A σ H env v d env' R S r e Q k => by
  unfold gL at e
  cases hl : seqL A d with
  | none => rw [hl] at e; cases e
  | some ds =>
    rw [hl] at e
    obtain ⟨aa, vs, e1, h1, h2⟩ := seqL_at R r hl
    exact ⟨aa, vs, e1, h1, by rw [h2.length, gAll_len e, hn], h F m A σ H env _ _ env' R S h2 e Q k⟩
/-! ### {k: v, ..} -/
abbrev Dps := Sl → Hs → RE (List (D × D))
def dNil : Dps := fun _ A => .ok [] A
def dCons (k v : E) (r : Dps) : Dps := fun env A => (k env A).bind fun x A1 => (v env A1).bind fun y A2 => (r env A2).bind fun ps A3 => .ok ((x, y) :: ps) A3
def kmerge (l : List (D × D)) : List (D × D) → List (D × D)
  | [] => l
  | (k, v) :: r => kmerge (kput l k v) r
def eDisp (d : Dps) : E := fun env A => (d env A).bind fun ps A1 => if (ps.all fun p => (keyK p.1).isSome) && decide (ps.length ≤ 15) then alloc A1 (.dic false false (kmerge [] ps)) else .stuck
/-! ### op= -/
def oIAdd (x y : D) (A : Hs) : RE D := match x, y with
  | .int i, .int j => .ok (.int (i + j)) A
  | .str z, .str w => if z.length + w.length ≤ sizeLine then .ok (.str (z ++ w)) A else .stuck
  | .tup l, .tup k => if l ≠ [] ∧ l.length + k.length ≤ sizeLine then .ok (.tup (l ++ k)) A else .stuck
  | .ref i, .ref j => match A[i]?, A[j]? with
    | some (.lst l), some (.lst k) => if l.length + k.length ≤ sizeLine then .ok (.ref i) (A.set i (.lst (l ++ k))) else .stuck
    | _, _ => .stuck
  | _, _ => .stuck
/-! ### d[k] op= e, xs[i] op= e -/
/-- a dict's item -/
def sDAugP (op : D → D → Hs → RE D) (o i a : E) : S := fun env A => ofE env (o env A) fun x A1 => ofE env (i env A1) fun y A2 => ofE env (oDGet x y A2) fun z A3 => ofE env (a env A3) fun v A4 => ofE env (op z v A4) fun r A5 => if isLst A5 x then .stuck else ofH env (setIt A5 x y r)
/-- a list's item, by a place from 0 on -/
def getN (A : Hs) (x y : D) : Option D := match seqL A x, y with
  | some l, .int i => if 0 ≤ i then l[i.toNat]? else none
  | _, _ => none
def sLAugP (op : D → D → Hs → RE D) (o i a : E) : S := fun env A => ofE env (o env A) fun x A1 => ofE env (i env A1) fun y A2 => match getN A2 x y with
  | some z => ofE env (a env A2) fun v A4 => ofE env (op z v A4) fun r A5 => if isLst A5 x then ofH env (setIt A5 x y r) else .stuck
  | none => .stuck
/-! ### min of three -/
def c3 (f : D → D → D → Hs → RE D) : List D → Hs → RE D := fun ds A => match ds with
  | [d, e, g] => f d e g A
  | _ => .stuck
def oMin3 (x y z : D) (A : Hs) : RE D := match x, y, z with
  | .int i, .int j, .int k => .ok (.int (min (min i j) k)) A
  | _, _, _ => .stuck
end
end SM

/-! ## equations for the plain functions -/
namespace SM
open PySem L2
section
variable {α β : Type} {A A1 A2 A3 : Hs} {env e1 e2 : Sl} {a b c o v : E} {as : As} {d d1 d2 x y z : D} {i j k n : Nat} {p q r : Int} {C : String} {f g : S} {F : Fn} {cs os xs : List String} {tb : List (String × String × Bool)} {l l1 l2 : List D} {fs : List (String × D)}
theorem z2y {f : α → Hs → RE β} : (RE.exc C A : RE α).bind f = .exc C A := rfl
theorem z0f {f : α → Hs → RE β} : (RE.stuck : RE α).bind f = .stuck := rfl
theorem z6i {x : α} : (RE.ok x A).noX = .ok x A := rfl
theorem z4l : (RE.exc C A : RE α).noX = .stuck := rfl
theorem z6v {e : Sl} : eVar 0 (some d :: e) A = .ok d A := rfl
theorem z5y {e : Sl} {s : Option D} : eVar (n + 1) (s :: e) A = eVar n e A := rfl
theorem eC_ : eC d env A = .ok d A := rfl
theorem zaq {o : D → D → Hs → RE D} : eOp o a b env A = (a env A).bind fun x A1 => (b env A1).bind fun y A2 => o x y A2 := rfl
theorem zcd {o : D → Hs → RE D} : eUn o a env A = (a env A).bind fun x A1 => o x A1 := rfl
theorem z8p : aNil env A = .ok [] A := rfl
theorem z77 : aCons a as env A = (a env A).bind fun x A1 => (as env A1).bind fun xs A2 => .ok (x :: xs) A2 := rfl
theorem zal {f : List D → Hs → RE D} : eCB f as env A = (as env A).bind f := rfl
theorem z5l : eCall F as env A = (as env A).bind F := rfl
theorem z4r : eCall0 F as env A = (as env A).bind fun ds A1 => (F ds A1).noX := rfl
theorem c1_ {f : D → Hs → RE D} : c1 f [d] A = f d A := rfl
theorem c2_ {f : D → D → Hs → RE D} : c2 f [d, d1] A = f d d1 A := rfl
theorem c3_ {f : D → D → D → Hs → RE D} : c3 f [d, d1, d2] A = f d d1 d2 A := rfl
/-- a truth, or stuck -/
def bl_ {α : Type} (r : RE D) (k : Bool → Hs → RE α) : RE α := match r with
  | .ok (.bl c) A => k c A
  | .ok _ _ => .stuck
  | .exc C A => .exc C A
  | .stuck => .stuck
theorem zab {c : Bool} {k : Bool → Hs → RE α} : bl_ (.ok (.bl c) A) k = k c A := rfl
theorem z5d {k : Bool → Hs → RE α} : bl_ (.exc C A) k = .exc C A := rfl
theorem za9 : eAnd a b env A = bl_ (a env A) fun c A1 => if c = true then b env A1 else .ok (.bl false) A1 := by
  unfold eAnd bl_ RE.bind
  cases a env A with
  | ok x A1 => cases x with
    | bl c => cases c <;> rfl
    | _ => rfl
  | _ => rfl
theorem zb9 : eOr a b env A = bl_ (a env A) fun c A1 => if c = true then .ok (.bl true) A1 else b env A1 := by
  unfold eOr bl_ RE.bind
  cases a env A with
  | ok x A1 => cases x with
    | bl c => cases c <;> rfl
    | _ => rfl
  | _ => rfl
theorem z8u : eNot a env A = bl_ (a env A) fun c A1 => .ok (.bl (!c)) A1 := by
  unfold eNot bl_ RE.bind
  cases a env A with
  | ok x A1 => cases x <;> rfl
  | _ => rfl
theorem zbr {o o' : D → D → Hs → RE D} : eCh o o' a b c env A = (a env A).bind fun x A1 => (b env A1).bind fun y A2 => bl_ (o x y A2) fun k A3 => if k = true then (c env A3).bind fun w A4 => o' y w A4 else .ok (.bl false) A3 := by
  unfold eCh bl_ RE.bind
  cases a env A with
  | ok x A1 =>
    simp only
    cases b env A1 with
    | ok y A2 =>
      simp only
      cases o x y A2 with
      | ok z A3 => cases z with
        | bl k => cases k <;> rfl
        | _ => rfl
      | _ => rfl
    | _ => rfl
  | _ => rfl
theorem zbg : tOf a env A = bl_ (a env A) fun c A1 => .ok c A1 := by
  unfold tOf bl_ RE.bind
  cases a env A with
  | ok x A1 => cases x <;> rfl
  | _ => rfl
theorem zbt {s t : Tt} : tAn s t env A = (s env A).bind fun c A1 => if c = true then t env A1 else .ok false A1 := rfl
theorem zby {s t : Tt} : tOo s t env A = (s env A).bind fun c A1 => if c = true then .ok true A1 else t env A1 := rfl
theorem zam {s : Tt} : tNo s env A = (s env A).bind fun c A1 => .ok (!c) A1 := rfl
theorem zc4 : tYe env A = .ok true A := rfl
theorem zca {s : Tt} : eIf s a b env A = (s env A).bind fun c A1 => if c = true then a env A1 else b env A1 := rfl
theorem z94 : eTup as env A = (as env A).bind fun ds A1 => if ds.length ≤ sizeLine then .ok (.tup ds) A1 else .stuck := rfl
theorem z8i : eLst as env A = (as env A).bind fun ds A1 => if ds.length ≤ sizeLine then .ok (.ref A1.length) (A1 ++ [.lst ds]) else .stuck := rfl
theorem z0i {n : Nat} (h : n ≤ 16000000) : n ≤ sizeLine := by rw [sizeLine_eq]; omega
theorem small_line' {n : Nat} (h : n < 16000000) : n < sizeLine := by rw [sizeLine_eq]; omega
theorem z6a {t : Bool} : eDNew t env A = .ok (.ref A.length) (A ++ [.dic t false []]) := rfl
theorem zc9 : oNo env A = .ok none A := rfl
def int_ {α : Type} (r : RE D) (k : Int → Hs → RE α) : RE α := match r with
  | .ok (.int c) A => k c A
  | .ok _ _ => .stuck
  | .exc C A => .exc C A
  | .stuck => .stuck
theorem z6p {c : Int} {k : Int → Hs → RE α} : int_ (.ok (.int c) A) k = k c A := rfl
theorem zbe : oSo a env A = int_ (a env A) fun c A1 => .ok (some c) A1 := by
  unfold oSo int_ RE.bind
  cases a env A with
  | ok x A1 => cases x <;> rfl
  | _ => rfl
theorem zat {o : D → Option Int → Option Int → Hs → RE D} {lo hi : Sl → Hs → RE (Option Int)} : eSl o a lo hi env A = (a env A).bind fun x A1 => (lo env A1).bind fun l A2 => (hi env A2).bind fun h A3 => o x l h A3 := rfl
/-! statements -/
def seqR (r : RS) (b : S) : RS := match r with
  | .nx env' A' => b env' A'
  | r => r
theorem sSeq_ : sSeq f g env A = seqR (f env A) g := rfl
theorem z72 : seqR (.rt d A) g = .rt d A := rfl
theorem z3m : seqR (.exc C env A) g = .exc C env A := rfl
theorem z7l : seqR (.bk env A) g = .bk env A := rfl
theorem z6r : seqR (.ct env A) g = .ct env A := rfl
theorem z0v : seqR .stuck g = .stuck := rfl
theorem zau : sNx env A = .nx env A := rfl
theorem zbv : sBk env A = .bk env A := rfl
theorem zac : sCt env A = .ct env A := rfl
theorem z3p : sRaise C env A = .exc C env A := rfl
theorem z79 {k : D → Hs → RS} : ofE env (.ok d A) k = k d A := rfl
theorem z49 {k : D → Hs → RS} : ofE env (.exc C A) k = .exc C env A := rfl
theorem z6z {c : Bool} {k : Bool → Hs → RS} : ofT env (.ok c A) k = k c A := rfl
theorem z3u {k : Bool → Hs → RS} : ofT env (.exc C A) k = .exc C env A := rfl
theorem z7r : sDrop a env A = ofE env (a env A) fun _ A1 => .nx env A1 := rfl
theorem z87 : sRet a env A = ofE env (a env A) fun d A1 => .rt d A1 := rfl
theorem z5r : sRetN env A = .rt .non A := rfl
theorem zbz {t : Tt} : sIf t f g env A = ofT env (t env A) fun c A1 => if c = true then f env A1 else g env A1 := rfl
theorem z7s : sSet i a env A = ofE env (a env A) fun d A1 => .nx (env.set i (some d)) A1 := rfl
def ofS (r : Option Sl) (A : Hs) : RS := match r with
  | some env' => .nx env' A
  | none => .stuck
theorem z2a : ofS (some env) A = .nx env A := rfl
theorem z9r {g : G} : sAsg a g env A = ofE env (a env A) fun d A1 => ofS (g d env A1) A1 := by
  unfold sAsg ofS; rfl
theorem gN_ : gN i d env A = some (env.set i (some d)) := rfl
theorem z7a {gs : List G} : gT gs (.tup l) env A = gAll gs l env A := rfl
theorem z2w : gAll [] [] env A = some env := rfl
theorem z0z {g : G} {gs : List G} : gAll (g :: gs) (d :: l) env A = (g d env A).bind fun e => gAll gs l e A := by
  rw [gAll]; cases g d env A <;> rfl
theorem gL_ {gs : List G} (h : seqL A x = some l) : gL gs x env A = gAll gs l env A := by unfold gL; rw [h]
def par_ (env : Sl) (i j : Nat) (r : RE (List D)) : RS := match r with
  | .ok [x, y] A1 => .nx ((env.set i (some x)).set j (some y)) A1
  | .exc C A1 => .exc C env A1
  | _ => .stuck
theorem z9x : sPar i j as env A = par_ env i j (as env A) := rfl
theorem z74 : par_ env i j (.ok [x, y] A) = .nx ((env.set i (some x)).set j (some y)) A := rfl
def var_ (env : Sl) (i : Nat) (k : D → RS) : RS := match env[i]? with
  | some (some x) => k x
  | _ => .stuck
theorem z93 {e : Sl} {k : D → RS} : var_ (some d :: e) 0 k = k d := rfl
theorem z8w {e : Sl} {s : Option D} {k : D → RS} : var_ (s :: e) (n + 1) k = var_ e n k := rfl
theorem za5 {o : D → D → Hs → RE D} : sAug i o a env A = var_ env i fun x => ofE env (a env A) fun y A1 => ofE env (o x y A1) fun z A2 => .nx (env.set i (some z)) A2 := rfl
def finR (r : RS) : RE D := match r with
    | .nx _ A' => .ok .non A'
    | .rt d A' => .ok d A'
    | .exc C _ A' => .exc C A'
    | _ => .stuck
theorem z5h : finR (.nx env A) = .ok .non A := rfl
theorem z6d : finR (.rt d A) = .ok d A := rfl
theorem z4s : finR (.exc C env A) = .exc C A := rfl
theorem z1j : finR .stuck = .stuck := rfl
theorem z9q (h : l.length = n) : mkFn n k f l A = finR (f (l.map some ++ List.replicate (k - n) none) A) := by
  unfold mkFn; rw [if_pos h]; unfold finR; rfl
theorem z8j {e : Sl} {s t : Option D} : List.set (s :: e) 0 t = t :: e := rfl
theorem z8m {e : Sl} {s t : Option D} : List.set (s :: e) (n + 1) t = s :: List.set e n t := rfl
/-! operators -/
theorem z64 : oAdd (.int p) (.int q) A = .ok (.int (p + q)) A := rfl
theorem z7c (h : l.length + l1.length ≤ 16000000) : oAdd (.tup l) (.tup l1) A = .ok (.tup (l ++ l1)) A := by
  unfold oAdd; simp only; rw [if_pos (z0i h)]
theorem z5s {s t : Str} (h : s.length + t.length ≤ 16000000) : oAdd (.str s) (.str t) A = .ok (.str (s ++ t)) A := by
  unfold oAdd; simp only; rw [if_pos (z0i h)]
theorem oAdd_l (h1 : A[i]? = some (.lst l)) (h2 : A[j]? = some (.lst l1)) (h : l.length + l1.length ≤ 16000000) : oAdd (.ref i) (.ref j) A = .ok (.ref A.length) (A ++ [.lst (l ++ l1)]) := by
  unfold oAdd; simp only [h1, h2]; rw [if_pos (z0i h)]; rfl
theorem z5q : oSub (.int p) (.int q) A = .ok (.int (p - q)) A := rfl
theorem z7p (h : -18446744073709551616 < q ∧ q < 18446744073709551616) : oMul (.int p) (.int q) A = .ok (.int (p * q)) A := by
  unfold oMul; simp only; rw [if_pos (.inl (.inr ⟨by have := h.1; omega, by have := h.2; omega⟩))]
theorem z6q (h : -18446744073709551616 < p ∧ p < 18446744073709551616) : oMul (.int p) (.int q) A = .ok (.int (p * q)) A := by
  unfold oMul; simp only; rw [if_pos (.inl (.inl ⟨by have := h.1; omega, by have := h.2; omega⟩))]
theorem z5t (h : l.length ≤ 1000 ∧ -1000 ≤ q ∧ q ≤ 4000) : oMul (.tup l) (.int q) A = .ok (.tup (List.replicate q.toNat l).flatten) A := by
  unfold oMul; simp only; rw [if_pos h]
theorem log_small {q : Int} (h : 0 < q ∧ q < 18446744073709551616) : q.natAbs.log2 < 9000 := by
  have : q.natAbs < 2 ^ 64 := by omega
  by_cases z : q.natAbs = 0
  · rw [z]; decide
  · have := (Nat.log2_lt z).mpr this; omega
theorem z66 (h : 0 < q ∧ q < 18446744073709551616) : oDiv (.int p) (.int q) A = .ok (.int (p / q)) A := by
  unfold oDiv oII; simp only; rw [if_pos ⟨h.1, log_small h⟩]
theorem z6c (h : 0 < q) : oMod (.int p) (.int q) A = .ok (.int (p % q)) A := by
  unfold oMod oII; simp only; rw [if_pos h]
theorem z6x (h : 0 ≤ q ∧ q ≤ 1000000 ∧ p.natAbs < 18446744073709551616) : oPow (.int p) (.int q) A = .ok (.int (p ^ q.toNat)) A := by
  unfold oPow oII; simp only; rw [if_pos ⟨h.1, h.2.1, by have := h.2.2; omega⟩]
theorem za8 : oLt (.int p) (.int q) A = .ok (.bl (decide (p < q))) A := rfl
theorem z8o : oLe (.int p) (.int q) A = .ok (.bl (decide (p ≤ q))) A := rfl
theorem z9s : oGt (.int p) (.int q) A = .ok (.bl (decide (q < p))) A := rfl
theorem z8l : oGe (.int p) (.int q) A = .ok (.bl (decide (q ≤ p))) A := rfl
theorem z6n : oNeg (.int p) A = .ok (.int (-p)) A := rfl
theorem z3q : oMax2 (.int p) (.int q) A = .ok (.int (max p q)) A := by
  show RE.ok (D.int (if q > p then q else p)) A = _
  congr 2; omega
theorem z47 : oMin2 (.int p) (.int q) A = .ok (.int (min p q)) A := by
  show RE.ok (D.int (if q < p then q else p)) A = _
  congr 2; omega
theorem z3z : oMin3 (.int p) (.int q) (.int r) A = .ok (.int (min (min p q) r)) A := rfl
theorem z6e : oInt (.int p) A = .ok (.int p) A := rfl
theorem z5z {b : Bool} : oInt (.bl b) A = .ok (.int (if b then 1 else 0)) A := rfl
theorem z80 : oEq (.int p) (.int q) A = .ok (.bl (decide (p = q))) A := by
  unfold oEq oB eqA; simp [pyA, PyData.eqv]; rfl
theorem z9g : oNe (.int p) (.int q) A = .ok (.bl (!decide (p = q))) A := by
  unfold oNe oB eqA; simp [pyA, PyData.eqv]; rfl
theorem z55 {s t : Str} : oEq (.str s) (.str t) A = .ok (.bl (decide (s = t))) A := by
  unfold oEq oB eqA; simp [pyA, PyData.eqv]; rfl
theorem z3t {s t : Str} : oNe (.str s) (.str t) A = .ok (.bl (!decide (s = t))) A := by
  unfold oNe oB eqA; simp [pyA, PyData.eqv]; rfl
theorem z9y {s t : String} : oEq (dS s) (dS t) A = .ok (.bl (decide (s = t))) A := by
  unfold dS; rw [z55]; congr 3; exact propext fS_inj
theorem z9u {s t : String} : oNe (dS s) (dS t) A = .ok (.bl (!decide (s = t))) A := by
  unfold dS; rw [z3t]; congr 4; exact propext fS_inj
theorem eqA_of {b : Bool} (h : eqA A x y = some b) : oEq x y A = .ok (.bl b) A := by unfold oEq oB; rw [h]
theorem neA_of {b : Bool} (h : eqA A x y = some b) : oNe x y A = .ok (.bl (!b)) A := by unfold oNe oB; simp only [h]; rfl
theorem z3a : oIs x .non A = .ok (.bl (isNon x)) A := rfl
theorem z09 : oIsNot x .non A = .ok (.bl (!isNon x)) A := rfl
theorem z6y {b c : Bool} : oIs (.bl b) (.bl c) A = .ok (.bl (decide (b = c))) A := rfl
theorem z1n {b c : Bool} : oIsNot (.bl b) (.bl c) A = .ok (.bl (!decide (b = c))) A := rfl
theorem z1h : isNon .non = true := rfl
theorem z0r : isNon (.int p) = false := rfl
theorem z2n {b : Bool} : isNon (.bl b) = false := rfl
theorem z0u : isNon (.ref i) = false := rfl
theorem z1o : isNon (.tup l) = false := rfl
theorem z16 {s : Str} : isNon (.str s) = false := rfl
theorem z30 {s : String} : isNon (dS s) = false := rfl
theorem z11 : isNon (.exc C) = false := rfl
theorem z12 : oIsi os xs tb (.int p) (.ty "int") A = .ok (.bl true) A := rfl
theorem z0o : oIsi os xs tb (.int p) (.ty "bool") A = .ok (.bl false) A := rfl
theorem z1q {b : Bool} : oIsi os xs tb (.bl b) (.ty "int") A = .ok (.bl true) A := rfl
theorem z0m {b : Bool} : oIsi os xs tb (.bl b) (.ty "bool") A = .ok (.bl true) A := rfl
theorem z0p : oIsi os xs tb .non (.ty "int") A = .ok (.bl false) A := rfl
theorem z0a : oIsi os xs tb .non (.ty "bool") A = .ok (.bl false) A := rfl
theorem z1a : oIsi os xs tb .non (.ty "str") A = .ok (.bl false) A := rfl
theorem z07 : oIsi os xs tb .non (.ty "tuple") A = .ok (.bl false) A := rfl
theorem z0l : oIsi os xs tb .non (.ty "list") A = .ok (.bl false) A := rfl
theorem z0s {s : Str} : oIsi os xs tb (.str s) (.ty "int") A = .ok (.bl false) A := rfl
theorem z0e {s : Str} : oIsi os xs tb (.str s) (.ty "bool") A = .ok (.bl false) A := rfl
theorem z0y {s : Str} : oIsi os xs tb (.str s) (.ty "str") A = .ok (.bl true) A := rfl
theorem z06 {s : Str} : oIsi os xs tb (.str s) (.ty "tuple") A = .ok (.bl false) A := rfl
theorem z18 : oIsi os xs tb (.tup l) (.ty "int") A = .ok (.bl false) A := rfl
theorem z0j : oIsi os xs tb (.tup l) (.ty "bool") A = .ok (.bl false) A := rfl
theorem z02 : oIsi os xs tb (.tup l) (.ty "tuple") A = .ok (.bl true) A := rfl
theorem z0h : oIsi os xs tb (.tup l) (.ty "list") A = .ok (.bl false) A := rfl
theorem z19 : oIsi os xs tb (.tup l) (.ty "str") A = .ok (.bl false) A := rfl
theorem z05 : oIsi os xs tb (.int p) (.ty "tuple") A = .ok (.bl false) A := rfl
theorem z14 : oIsi os xs tb (.int p) (.ty "str") A = .ok (.bl false) A := rfl
theorem z0b : oIsi os xs tb (.int p) (.ty "list") A = .ok (.bl false) A := rfl
theorem z03 {b : Bool} : oIsi os xs tb (.bl b) (.ty "tuple") A = .ok (.bl false) A := rfl
theorem z17 {b : Bool} : oIsi os xs tb (.bl b) (.ty "str") A = .ok (.bl false) A := rfl
/-! the heap -/
theorem z1y : seqL A (.scr l) = some l := rfl
theorem z20 : seqL A (.tup l) = none := rfl
theorem z2b {s : Str} : seqL A (.str s) = none := rfl
theorem z65 : oLen (.tup l) A = .ok (.int l.length) A := rfl
theorem z61 {s : Str} (h : s.length ≤ 16000000) : oLen (.str s) A = .ok (.int s.length) A := by
  unfold oLen lenA; simp only [seqL, seqT]; rw [if_pos (z0i h)]
theorem z2z : oTuple (.tup l) A = .ok (.tup l) A := rfl
theorem z37 : oList (.tup l) A = .ok (.ref A.length) (A ++ [.lst l]) := rfl
theorem z91 {lo hi : Option Int} : oSl (.tup l) lo hi A = .ok (.tup (cutD l lo hi)) A := rfl
def fld_ (r : Option D) (A : Hs) : RE D := match r with
  | some d => .ok d A
  | none => .stuck
theorem z1z : fld_ (some d) A = .ok d A := rfl
theorem z86 {f : String} : eFld cs f a env A = (a env A).bind fun x A1 => fld_ (getFld cs f A1 x) A1 := rfl
theorem zb2 {f : String} : sFl cs f o a env A = ofE env (a env A) fun d A1 => ofE env (o env A1) fun x A2 => ofH env (setFld cs A2 x f d) := by
  unfold sFl ofH; rfl
theorem z27 : ofH env (some A) = .nx env A := rfl
theorem z4t {f : String} {op : D → D → Hs → RE D} : sFlAug cs f op o a env A = ofE env (o env A) fun x A1 => ofE env (fld_ (getFld cs f A1 x) A1) fun v A1 => ofE env (a env A1) fun y A2 => ofE env (op v y A2) fun z A3 => ofH env (setFld cs A3 x f z) := by
  unfold sFlAug ofH
  congr
  funext x A1
  cases getFld cs f A1 x <;> rfl
theorem z1r {f : String} : putF f d [] = [(f, d)] := rfl
theorem z1d {f g : String} : putF f d ((g, x) :: fs) = if g = f then (g, d) :: fs else (g, x) :: putF f d fs := rfl
theorem z3c : oIAdd (.int p) (.int q) A = .ok (.int (p + q)) A := rfl
def meth_ (r : Option Fn) (k : Fn → RE D) : RE D := match r with
  | some f => k f
  | none => .stuck
theorem z1e {k : Fn → RE D} : meth_ (some F) k = k F := rfl
theorem z75 {m : String} {t : List (String × Fn)} : eMeth m t o as env A = (o env A).bind fun x A1 => meth_ (methOf m t A1 x) fun f => (as env A1).bind fun ds A2 => f (x :: ds) A2 := by
  unfold eMeth meth_; rfl
theorem z4h {m : String} {t : List (String × Fn)} : eMeth0 m t o as env A = (o env A).bind fun x A1 => meth_ (methOf m t A1 x) fun f => (as env A1).bind fun ds A2 => (f (x :: ds) A2).noX := by
  unfold eMeth0 meth_; rfl
theorem make_ok {ds : List D} (h : F (.ref A.length :: ds) (A ++ [.obj C []]) = .ok .non A1) : make C F ds A = .ok (.ref A.length) A1 := by unfold make; rw [h]
theorem z6o : eMake C F as env A = (as env A).bind fun ds A1 => make C F ds A1 := rfl
theorem z3h : eMake0 C F as env A = (as env A).bind fun ds A1 => (make C F ds A1).noX := rfl
theorem za2 : sPut o b a env A = ofE env (a env A) fun v A1 => ofE env (o env A1) fun x A2 => ofE env (b env A2) fun y A3 => ofH env (setIt A3 x y v) := rfl
theorem z4k {s : String} : keyOk false (dS s) = true := rfl
theorem z52 : keyOk false (.int p) = true := rfl
theorem z7i {s t : String} : keq (dS s) (dS t) = decide (s = t) := by
  show decide (fS s = fS t) = decide (s = t)
  simp only [fS_inj]
theorem z6f : keq (.int p) (.int q) = decide (p = q) := rfl
def augL_ (env : Sl) (r : Option D) (k : D → RS) : RS := match r with
  | some z => k z
  | none => .stuck
theorem z0w {k : D → RS} : augL_ env (some d) k = k d := rfl
theorem z4j {op : D → D → Hs → RE D} : sLAugP op o b a env A = ofE env (o env A) fun x A1 => ofE env (b env A1) fun y A2 => augL_ env (getN A2 x y) fun z => ofE env (a env A2) fun v A4 => ofE env (op z v A4) fun r A5 => if isLst A5 x then ofH env (setIt A5 x y r) else .stuck := by
  unfold sLAugP augL_; rfl
theorem z4q {op : D → D → Hs → RE D} : sDAugP op o b a env A = ofE env (o env A) fun x A1 => ofE env (b env A1) fun y A2 => ofE env (oDGet x y A2) fun z A3 => ofE env (a env A3) fun v A4 => ofE env (op z v A4) fun r A5 => if isLst A5 x then .stuck else ofH env (setIt A5 x y r) := rfl
/-! methods of lists -/
theorem zc7 {o : D → List D → Hs → RE D} : eBL o a as env A = (a env A).bind fun x A1 => if (seqL A1 x).isSome then (as env A1).bind fun ds A2 => o x ds A2 else .stuck := rfl
theorem z85 {o : D → Hs → RE D} : eBL0 o a env A = (a env A).bind fun x A1 => if (seqL A1 x).isSome then o x A1 else .stuck := rfl
/-! walks -/
def ofW (env : Sl) (r : RE Wk) (k : Wk → Hs → RS) : RS := match r with
  | .ok w A => k w A
  | .exc C A => .exc C env A
  | .stuck => .stuck
theorem z5o {w : Wk} {k : Wk → Hs → RS} : ofW env (.ok w A) k = k w A := rfl
theorem z9o {w : Sl → Hs → RE Wk} {g : G} : sFor w g f env A = ofW env (w env A) fun k A1 => forL g f k.gd k.ds env A1 := by unfold sFor ofW; rfl
def wk_ (r : Option Wk) (A : Hs) : RE Wk := match r with
  | some k => .ok k A
  | none => .stuck
theorem z42 {w : Wk} : wk_ (some w) A = .ok w A := rfl
theorem zai {f : Hs → D → Option Wk} : wOf f a env A = (a env A).bind fun x A1 => wk_ (f A1 x) A1 := by unfold wOf wk_; rfl
theorem z90 : wSeq a env A = (a env A).bind fun x A1 => wk_ (wkA A1 x) A1 := zai
theorem zb6 {f : List D → Option Wk} : wAs f as env A = (as env A).bind fun x A1 => wk_ (f x) A1 := by unfold wAs wk_; rfl
theorem z4w : wkA A (.tup l) = some ⟨l, tt⟩ := rfl
theorem z4y : wkA A (.scr l) = some ⟨l, tt⟩ := rfl
theorem z4c : wkE A (.scr l) = some ⟨enumL l, tt⟩ := rfl
theorem zbx (h : -4611686018427387904 ≤ p ∧ p < 4611686018427387904) : rg1 [.int p] = some ⟨rgL 0 1 p.toNat, tt⟩ := by
  unfold rg1; simp only; rw [if_pos ⟨by have := h.1; omega, by have := h.2; omega⟩]
theorem zcc (h : -4611686018427387904 ≤ p ∧ p < 4611686018427387904 ∧ -4611686018427387904 ≤ q ∧ q < 4611686018427387904) : rg2 [.int p, .int q] = some ⟨rgL p 1 (q - p).toNat, tt⟩ := by
  unfold rg2; simp only; rw [if_pos ⟨⟨by have := h.1; omega, by have := h.2.1; omega⟩, ⟨by have := h.2.2.1; omega, by have := h.2.2.2; omega⟩⟩]
theorem zc2 (h : -1152921504606846976 ≤ p ∧ p < 1152921504606846976 ∧ -1152921504606846976 ≤ q ∧ q < 1152921504606846976 ∧ 0 < r ∧ r < 1000000) : rg3 [.int p, .int q, .int r] = some ⟨rgL p r (cnt p q r), tt⟩ := by
  unfold rg3; simp only; rw [if_pos ⟨by have := h.1; omega, by have := h.2.1; omega, by have := h.2.2.1; omega, by have := h.2.2.2.1; omega, h.2.2.2.2.1, h.2.2.2.2.2⟩]
theorem forL_nil {g : G} {gd : Hs → Prop} (h : gd A) : forL g f gd [] env A = .nx env A := by unfold forL; rw [if_pos h]
def turnR (r : RS) (k : S) : RS := match r with
  | .nx e A => k e A
  | .ct e A => k e A
  | .bk e A => .nx e A
  | r => r
theorem z3n {k : S} : turnR (.nx env A) k = k env A := rfl
theorem z44 {k : S} : turnR (.ct env A) k = k env A := rfl
theorem z4b {k : S} : turnR (.rt d A) k = .rt d A := rfl
theorem z51 {k : S} : turnR (.bk env A) k = .nx env A := rfl
theorem z1u {k : S} : turnR (.exc C env A) k = .exc C env A := rfl
theorem forL_cons {g : G} {gd : Hs → Prop} (h : gd A) (hg : g d env A = some e1) : forL g f gd (d :: l) env A = turnR (f e1 A) (forL g f gd l) := by
  rw [forL]; rw [if_pos h, hg]; rfl
/-- a for by what stays true -/
theorem for_inv {g : G} {gd : Hs → Prop} (I : Nat → Sl → Hs → Prop) (R : RS → Prop) {ds : List D} (h0 : I 0 env A) (hg : ∀ i e A, i ≤ ds.length → I i e A → gd A)
    (hs : ∀ i e A d, ds[i]? = some d → I i e A → ∃ e1, g d e A = some e1 ∧ ((∃ e2 A2, (f e1 A = .nx e2 A2 ∨ f e1 A = .ct e2 A2) ∧ I (i + 1) e2 A2) ∨ (∃ d2 A2, f e1 A = .rt d2 A2 ∧ R (.rt d2 A2)) ∨ (∃ e2 A2, f e1 A = .bk e2 A2 ∧ R (.nx e2 A2)) ∨ (∃ C e2 A2, f e1 A = .exc C e2 A2 ∧ R (.exc C e2 A2))))
    (hd : ∀ e A, I ds.length e A → R (.nx e A)) : R (forL g f gd ds env A) := by
  have main : ∀ (m : Nat) (e : Sl) (A : Hs), m ≤ ds.length → I m e A → R (forL g f gd (ds.drop m) e A) := by
    intro m
    generalize hk : ds.length - m = k
    induction k generalizing m with
    | zero =>
      intro e A hm hI
      have : m = ds.length := by omega
      subst this
      rw [List.drop_length, forL_nil (hg _ _ _ hm hI)]
      exact hd e A hI
    | succ k ih =>
      intro e A hm hI
      have hlt : m < ds.length := by omega
      rw [List.drop_eq_getElem_cons hlt]
      obtain ⟨e1, h1, h2⟩ := hs m e A ds[m] (by simp [hlt]) hI
      rw [forL_cons (hg _ _ _ hm hI) h1]
      rcases h2 with ⟨e2, A2, h2, h3⟩ | ⟨d2, A2, h2, h3⟩ | ⟨e2, A2, h2, h3⟩ | ⟨C, e2, A2, h2, h3⟩
      · rcases h2 with h2 | h2
        · rw [h2, z3n]; exact ih (m + 1) (by omega) e2 A2 (by omega) h3
        · rw [h2, z44]; exact ih (m + 1) (by omega) e2 A2 (by omega) h3
      · rw [h2]; exact h3
      · rw [h2]; exact h3
      · rw [h2]; exact h3
  have := main 0 env A (Nat.zero_le _) h0
  rwa [List.drop_zero] at this
def lc_ (r : RE (List D)) : RE D := match r with
  | .ok l A2 => alloc A2 (.lst l)
  | _ => .stuck
theorem z8q : lc_ (.ok l A) = .ok (.ref A.length) (A ++ [.lst l]) := rfl
theorem zbn {w : Sl → Hs → RE Wk} {g : G} {t : Tt} {vs : List Nat} : eLc w g t a vs env A = (w env A).bind fun k A1 => lc_ (lcL g t a k.gd (wipeS env vs) k.ds [] A1) := by unfold eLc lc_; rfl
/-- a comprehension whose parts leave the heap as it is -/
theorem lc_pure {g : G} {t : Tt} {gd : Hs → Prop} (p : D → Bool) (h : D → D) {ds acc : List D} (hgd : gd A) (hl : acc.length + ds.length < 16000000)
    (hs : ∀ d ∈ ds, ∃ e1, g d env A = some e1 ∧ t e1 A = .ok (p d) A ∧ (p d = true → a e1 A = .ok (h d) A)) : lcL g t a gd env ds acc A = .ok (acc ++ (ds.filter p).map h) A := by
  induction ds generalizing acc with
  | nil => rw [lcL, if_pos hgd]; simp
  | cons d ds ih =>
    obtain ⟨e1, h1, h2, h3⟩ := hs d List.mem_cons_self
    rw [lcL, if_pos hgd, h1]
    simp only [h2]
    cases q : p d with
    | false =>
      simp only
      rw [ih (by rw [List.length_cons] at hl; omega) fun d' hd => hs d' (List.mem_cons_of_mem _ hd), List.filter_cons, q]
      rfl
    | true =>
      simp only [h3 q]
      rw [if_pos (small_line' (by rw [List.length_cons] at hl; omega)), ih (by rw [List.length_cons] at hl; rw [List.length_append, List.length_singleton]; omega) fun d' hd => hs d' (List.mem_cons_of_mem _ hd), List.filter_cons, q]
      simp
end
end SM

/-! ## frames, equal data, slices -/
namespace SM
open PySem L2
section
variable {α β : Type} {A A1 A2 A3 : Hs} {env e1 e2 : Sl} {a b c o v : E} {as : As} {d d1 d2 x y z : D} {i j k n : Nat} {p q r : Int} {C : String} {f g : S} {F : Fn} {cs os xs : List String} {tb : List (String × String × Bool)} {l l1 l2 : List D} {fs : List (String × D)} {s s1 s2 : List Nat} {u u1 u2 : O}
/-- what a piece of code leaves alone -/
def Fr (s : List Nat) (A A1 : Hs) : Prop := A.length ≤ A1.length ∧ ∀ j, j < A.length → j ∉ s → A1[j]? = A[j]?
theorem Fr.refl : Fr s A A := ⟨Nat.le_refl _, fun _ _ _ => rfl⟩
theorem Fr.trans (h : Fr s A A1) (k : Fr s A1 A2) : Fr s A A2 := ⟨Nat.le_trans h.1 k.1, fun j hj hn => (k.2 j (Nat.lt_of_lt_of_le hj h.1) hn).trans (h.2 j hj hn)⟩
/-- the second may also touch what is new -/
theorem Fr.trans' (h : Fr s A A1) (k : Fr s2 A1 A2) (hs : ∀ j ∈ s2, j ∈ s ∨ A.length ≤ j) : Fr s A A2 := ⟨Nat.le_trans h.1 k.1, fun j hj hn => (k.2 j (Nat.lt_of_lt_of_le hj h.1) fun h3 => (hs j h3).elim hn fun h4 => by omega).trans (h.2 j hj hn)⟩
theorem Fr.mono (h : Fr s A A1) (hs : ∀ j ∈ s, j ∈ s2) : Fr s2 A A1 := ⟨h.1, fun j hj hn => h.2 j hj fun h3 => hn (hs j h3)⟩
theorem lt_of_get {α : Type} {A : List α} {u : α} (h : A[i]? = some u) : i < A.length := by
  rcases Nat.lt_or_ge i A.length with h1 | h1
  · exact h1
  · rw [List.getElem?_eq_none h1] at h; cases h
theorem Fr.get (h : Fr s A A1) (g : A[j]? = some u) (hn : j ∉ s) : A1[j]? = some u := (h.2 j (lt_of_get g) hn).trans g
theorem Fr.le (h : Fr s A A1) : A.length ≤ A1.length := h.1
theorem Fr.set (h : i ∈ s) : Fr s A (A.set i u) := ⟨by simp, fun j hj hn => List.getElem?_set_ne fun (e : i = j) => hn (e ▸ h)⟩
theorem Fr.push : Fr s A (A ++ [u]) := ⟨by simp, fun j hj hn => by rw [List.getElem?_append_left hj]⟩
theorem Fr.then_set (h : Fr s A A1) (hi : i ∈ s ∨ A.length ≤ i) : Fr s A (A1.set i u) := ⟨by simpa using h.1, fun j hj hn => by
  rw [List.getElem?_set_ne fun (e : i = j) => hi.elim (fun h2 => hn (e ▸ h2)) fun h2 => by omega]
  exact h.2 j hj hn⟩
theorem Fr.then_push (h : Fr s A A1) : Fr s A (A1 ++ [u]) := h.trans .push
theorem get_push (h : A[j]? = some u1) : (A ++ [u])[j]? = some u1 := (List.getElem?_append_left (lt_of_get h)).trans h
theorem z2p : (A.set i u).set i u1 = A.set i u1 := List.set_set ..
theorem z3i : (A.set i u).length = A.length := by simp
/-! data without a heap -/
def pd : Nat → D → Bool
  | _, .non => true
  | _, .bl _ => true
  | _, .int _ => true
  | _, .str _ => true
  | n + 1, .tup l => l.all (pd n)
  | n + 1, .scr l => l.all (pd n)
  | n + 1, .wt l => l.all (pd n)
  | _, _ => false
theorem pd_int : pd n (.int p) = true := by cases n <;> rfl
theorem pd_py : ∀ {n : Nat} {d : D}, pd n d = true → ∃ p, p.plain = true ∧ ∀ A, pyA A n d = some p := by
  intro n
  induction n with
  | zero =>
    intro d h
    cases d with
    | non => exact ⟨.none, rfl, fun A => by simp [pyA]⟩
    | bl b => exact ⟨.bool b, rfl, fun A => by simp [pyA]⟩
    | int b => exact ⟨.int b, rfl, fun A => by simp [pyA]⟩
    | str b => exact ⟨.str b, rfl, fun A => by simp [pyA]⟩
    | _ => cases h
  | succ n ih =>
    have all : ∀ {l : List D}, l.all (pd n) = true → ∃ ps, PyData.plainAll ps = true ∧ ∀ A, allSome (l.map (pyA A n)) = some ps := by
      intro l
      induction l with
      | nil => intro _; exact ⟨[], rfl, fun A => rfl⟩
      | cons d l il =>
        intro h
        rw [List.all_cons, Bool.and_eq_true] at h
        obtain ⟨p, h0, h1⟩ := ih h.1
        obtain ⟨ps, h2, h3⟩ := il h.2
        refine ⟨p :: ps, by simp [PyData.plainAll, h0, h2], fun A => ?_⟩
        rw [List.map_cons, h1 A, allSome, h3 A]; rfl
    intro d h
    cases d with
    | tup l =>
      obtain ⟨ps, h1, h2⟩ := all h
      exact ⟨.tuple ps, by simpa [PyData.plain] using h1, fun A => by rw [pyA, h2 A]; rfl⟩
    | wt l =>
      obtain ⟨ps, h1, h2⟩ := all h
      exact ⟨.tuple ps, by simpa [PyData.plain] using h1, fun A => by rw [pyA, h2 A]; rfl⟩
    | scr l =>
      obtain ⟨ps, h1, h2⟩ := all h
      exact ⟨.list ps, by simpa [PyData.plain] using h1, fun A => by rw [pyA, h2 A]; rfl⟩
    | non => exact ⟨.none, rfl, fun A => by simp [pyA]⟩
    | bl b => exact ⟨.bool b, rfl, fun A => by simp [pyA]⟩
    | int b => exact ⟨.int b, rfl, fun A => by simp [pyA]⟩
    | str b => exact ⟨.str b, rfl, fun A => by simp [pyA]⟩
    | _ => cases h
theorem pd_all : ∀ {l : List D}, l.all (pd n) = true → ∃ ps, PyData.plainAll ps = true ∧ ∀ A, allSome (l.map (pyA A n)) = some ps := by
  intro l
  induction l with
  | nil => intro _; exact ⟨[], rfl, fun A => rfl⟩
  | cons d l il =>
    intro h
    rw [List.all_cons, Bool.and_eq_true] at h
    obtain ⟨p, h0, h1⟩ := pd_py h.1
    obtain ⟨ps, h2, h3⟩ := il h.2
    refine ⟨p :: ps, by simp [PyData.plainAll, h0, h2], fun A => ?_⟩
    rw [List.map_cons, h1 A, allSome, h3 A]; rfl
/-- two values that read the same -/
theorem eqA_same {P : PyData} (hp : P.plain = true) (h : pyA A 40 x = some P) (k : pyA A 40 y = some P) : eqA A x y = some true := by
  unfold eqA; rw [h, k]; simp only; rw [PySem.SeqAt.eqv_refl_plain _ hp]
theorem py_lst (h : A[i]? = some (.lst l)) : pyA A (n + 1) (.ref i) = (allSome (l.map (pyA A n))).map .list := by
  rw [pyA]; simp only [h]
theorem eqA_lst (h : A[i]? = some (.lst l)) (k : A[j]? = some (.lst l)) (hp : l.all (pd 39) = true) : eqA A (.ref i) (.ref j) = some true := by
  obtain ⟨ps, h1, h2⟩ := pd_all hp
  refine eqA_same (P := .list ps) (by simpa [PyData.plain] using h1) ?_ ?_
  · rw [py_lst h, h2 A]; rfl
  · rw [py_lst k, h2 A]; rfl
theorem oEq_lst (h : A[i]? = some (.lst l)) (k : A[j]? = some (.lst l)) (hp : l.all (pd 39) = true) : oEq (.ref i) (.ref j) A = .ok (.bl true) A := eqA_of (eqA_lst h k hp)
theorem oNe_lst (h : A[i]? = some (.lst l)) (k : A[j]? = some (.lst l)) (hp : l.all (pd 39) = true) : oNe (.ref i) (.ref j) A = .ok (.bl false) A := neA_of (eqA_lst h k hp)
theorem oNe_bb {b c : Bool} : oNe (.bl b) (.bl c) A = .ok (.bl (!decide (b = c))) A := by
  refine neA_of ?_
  unfold eqA; cases b <;> cases c <;> simp [pyA, PyData.eqv]
/-! slices -/
theorem sIx_some {n d : Nat} {v : Int} (h : 0 ≤ v) : HT.sIx n d (some v) = min v.toNat n := by
  obtain ⟨k, rfl⟩ := Int.eq_ofNat_of_zero_le h
  exact HT.sIx_nat n d k
theorem z7m {l : List α} : cutD l none none = l := by
  unfold cutD; rw [HT.sIx_none, HT.sIx_none]; simp
theorem z78 {l : List α} (h : 0 ≤ p) : cutD l none (some p) = l.take p.toNat := by
  unfold cutD; rw [HT.sIx_none, sIx_some h]
  rw [List.drop_zero, Nat.sub_zero, List.take_eq_take_iff]; omega
theorem z6j {l : List α} (h : 0 ≤ p) : cutD l (some p) none = l.drop p.toNat := by
  unfold cutD; rw [HT.sIx_none, sIx_some h]
  rcases Nat.le_total p.toNat l.length with q | q
  · rw [Nat.min_eq_left q, List.take_of_length_le (by rw [List.length_drop]; omega)]
  · rw [Nat.min_eq_right q, List.drop_of_length_le (Nat.le_refl _), List.drop_of_length_le q]; simp
theorem z5p {l : List α} (h : 0 ≤ p) (k : 0 ≤ q) : cutD l (some p) (some q) = (l.drop p.toNat).take (q.toNat - p.toNat) := by
  unfold cutD; rw [sIx_some h, sIx_some k]
  rcases Nat.le_total p.toNat l.length with r | r
  · rw [Nat.min_eq_left r, List.take_eq_take_iff, List.length_drop]; omega
  · rw [Nat.min_eq_right r, List.drop_of_length_le (Nat.le_refl _), List.drop_of_length_le r]; simp
theorem z6m {l : List α} (h : 0 ≤ p) : atI l p = l[p.toNat]? := by
  unfold atI ixN
  rw [if_pos h]
  by_cases k : p < l.length
  · rw [if_pos k]; rfl
  · rw [if_neg k, List.getElem?_eq_none (by omega)]; rfl
theorem ixN_nat (h : 0 ≤ p) (k : p < (n : Int)) : ixN n p = some p.toNat := by
  unfold ixN; rw [if_pos h, if_pos k]
end
end SM

/-! ## the same, as rules that only compute (the heap's places are looked up in the term) -/
namespace SM
open PySem L2
section
variable {α β : Type} {A A1 A2 A3 : Hs} {env e1 e2 : Sl} {a b c o v : E} {as : As} {d d1 d2 x y z w : D} {i j k n : Nat} {p q r : Int} {C m : String} {f g : S} {F : Fn} {cs os xs : List String} {tb : List (String × String × Bool)} {l l1 l2 : List D} {fs : List (String × D)} {u u1 u2 : O} {lo hi : Option Int} {t lk : Bool} {kv : List (D × D)}
def sq_ : Option O → Option (List D)
  | some (.lst l) => some l
  | _ => none
theorem zax : sq_ (some (.lst l)) = some l := rfl
theorem z7k : seqL A (.ref i) = sq_ A[i]? := by unfold seqL sq_; rfl
theorem z38 : lstAt A (.ref i) = (sq_ A[i]?).map fun l => (i, l) := by
  unfold lstAt sq_
  rcases h : A[i]? with _ | u
  · simp only [h]; rfl
  · cases u <;> simp only [h] <;> rfl
theorem zaa {α β : Type} {f : α → β} {x : α} : (some x).map f = some (f x) := rfl
def ob_ : Option O → Option (String × List (String × D))
  | some (.obj C fs) => some (C, fs)
  | _ => none
theorem zbh : ob_ (some (.obj C fs)) = some (C, fs) := rfl
theorem z56 : objAt A (.ref i) = ob_ A[i]? := by unfold objAt ob_; rfl
def gf_ (cs : List String) (f : String) : Option (String × List (String × D)) → Option D
  | some (C, fs) => if C ∈ cs then fs.lookup f else none
  | none => none
theorem zc0 {f : String} : gf_ cs f (some (C, fs)) = if C ∈ cs then fs.lookup f else none := rfl
theorem z2t {f : String} : getFld cs f A x = gf_ cs f (objAt A x) := by unfold getFld gf_; rfl
def sf_ (cs : List String) (A : Hs) (i : Nat) (f : String) (d : D) : Option (String × List (String × D)) → Option Hs
  | some (C, fs) => if C ∈ cs ∧ fs.length < 999 then some (A.set i (.obj C (putF f d fs))) else none
  | none => none
theorem zbm {f : String} : sf_ cs A i f d (some (C, fs)) = if C ∈ cs ∧ fs.length < 999 then some (A.set i (.obj C (putF f d fs))) else none := rfl
theorem z2m {f : String} : setFld cs A (.ref i) f d = sf_ cs A i f d (ob_ A[i]?) := by
  unfold setFld
  rcases h : A[i]? with _ | u
  · simp only [h]; rfl
  · cases u <;> simp only [h] <;> rfl
def mo_ (m : String) (t : List (String × Fn)) : Option (String × List (String × D)) → Option Fn
  | some (C, fs) => if (fs.lookup m).isSome = true then none else t.lookup C
  | none => none
theorem zah {t : List (String × Fn)} : mo_ m t (some (C, fs)) = if (fs.lookup m).isSome = true then none else t.lookup C := rfl
theorem z1s {t : List (String × Fn)} : methOf m t A x = mo_ m t (objAt A x) := by
  unfold methOf mo_; rfl
theorem z2s {β : Type} {f : String} : List.lookup f ([] : List (String × β)) = none := rfl
theorem z13 {β : Type} {f g : String} {x : β} {r : List (String × β)} : List.lookup f ((g, x) :: r) = if f = g then some x else List.lookup f r := by
  by_cases h : f = g
  · rw [if_pos h]; subst h; simp
  · rw [if_neg h, List.lookup, beq_false_of_ne h]
def at_ (A : Hs) : Option D → RE D
  | some d => .ok d A
  | none => .stuck
theorem zar : at_ A (some d) = .ok d A := rfl
def ln_ (A : Hs) : Option O → RE D
  | some (.lst l) => .ok (.int l.length) A
  | some (.dic false false l) => .ok (.int l.length) A
  | _ => .stuck
theorem zao : ln_ A (some (.lst l)) = .ok (.int l.length) A := rfl
theorem zcb : ln_ A (some (.dic false false kv)) = .ok (.int kv.length) A := rfl
theorem z5u : oLen (.ref i) A = ln_ A A[i]? := by
  unfold oLen lenA; rw [z7k]
  simp only [seqT]
  rcases A[i]? with _ | u
  · rfl
  · cases u with
    | lst l => rfl
    | obj C f => rfl
    | nd _ => rfl
    | dic t lk kv => cases t <;> cases lk <;> rfl
theorem z2h : oLen (.scr l) A = .ok (.int l.length) A := rfl
def ix_ (A : Hs) (p : Int) : Option (List D) → RE D
  | some l => at_ A (atI l p)
  | none => .stuck
theorem zbk : ix_ A p (some l) = at_ A (atI l p) := rfl
theorem z82 : oIx (.ref i) (.int p) A = ix_ A p (sq_ A[i]?) := by
  unfold oIx; simp only [z7k]
  rcases h : sq_ A[i]? with _ | l
  · rfl
  · show (match atI l p with | some d => RE.ok d A | none => .stuck) = at_ A (atI l p)
    cases atI l p <;> rfl
theorem z3d : oIx (.scr l) (.int p) A = at_ A (atI l p) := by
  unfold oIx; simp only [seqL]; unfold at_; cases atI l p <;> rfl
theorem z3j : oIx (.tup l) (.int p) A = at_ A (atI l p) := by
  unfold oIx seqT; simp only [z20]; unfold at_; cases atI l p <;> rfl
def nw_ (A : Hs) : Option (List D) → RE D
  | some l => .ok (.ref A.length) (A ++ [.lst l])
  | none => .stuck
theorem zbu : nw_ A (some l) = .ok (.ref A.length) (A ++ [.lst l]) := rfl
theorem za3 : oSl (.ref i) lo hi A = nw_ A ((sq_ A[i]?).map fun l => cutD l lo hi) := by
  unfold oSl; rw [z7k]; cases sq_ A[i]? <;> rfl
theorem z53 : oSl (.scr l) lo hi A = .ok (.ref A.length) (A ++ [.lst (cutD l lo hi)]) := rfl
theorem z54 : oList (.ref i) A = nw_ A (sq_ A[i]?) := by
  unfold oList; rw [z7k]; cases sq_ A[i]? <;> rfl
theorem z0t : oList (.scr l) A = .ok (.ref A.length) (A ++ [.lst l]) := rfl
theorem z7q : oRev (.ref i) A = nw_ A ((sq_ A[i]?).map List.reverse) := by
  unfold oRev; rw [z7k]; cases sq_ A[i]? <;> rfl
def tp_ (A : Hs) : Option (List D) → RE D
  | some l => .ok (.tup l) A
  | none => .stuck
theorem zbl : tp_ A (some l) = .ok (.tup l) A := rfl
theorem z2k : oTuple (.ref i) A = tp_ A (sq_ A[i]?) := by
  unfold oTuple; rw [z7k]; cases sq_ A[i]? <;> rfl
theorem z08 : oTuple (.scr l) A = .ok (.tup l) A := rfl
def ap_ (A : Hs) (i : Nat) (l1 : List D) : Option (List D) → RE D
  | some l => if l.length + l1.length ≤ sizeLine then .ok .non (A.set i (.lst (l ++ l1))) else .stuck
  | none => .stuck
theorem zak (h : l.length + l1.length ≤ 16000000) : ap_ A i l1 (some l) = .ok .non (A.set i (.lst (l ++ l1))) := if_pos (z0i h)
theorem z1m : oAppend (.ref i) [d] A = ap_ A i [d] (sq_ A[i]?) := by
  unfold oAppend; rw [z38]
  rcases sq_ A[i]? with _ | l
  · rfl
  · simp only [zaa, ap_, List.length_singleton]; rfl
theorem z0c : oExtend (.ref i) [.tup l1] A = ap_ A i l1 (sq_ A[i]?) := by
  unfold oExtend; rw [z38]
  rcases sq_ A[i]? with _ | l
  · rfl
  · simp only [zaa, lstAt]; rfl
def ex_ (A : Hs) (i : Nat) (r : Option (List D)) : Option (List D) → RE D
  | some l1 => ap_ A i l1 r
  | none => .stuck
theorem zaz {r : Option (List D)} : ex_ A i r (some l1) = ap_ A i l1 r := rfl
theorem z0g : oExtend (.ref i) [.ref j] A = ex_ A i (sq_ A[i]?) (sq_ A[j]?) := by
  unfold oExtend
  rcases h : sq_ A[i]? with _ | l
  · rcases h2 : sq_ A[j]? with _ | l1 <;> simp only [z38, h, Option.map] <;> rfl
  · rcases h2 : sq_ A[j]? with _ | l1 <;> simp only [z38, h, h2, Option.map] <;> rfl
def cl_ (A : Hs) (i : Nat) : Option (List D) → RE D
  | some _ => .ok .non (A.set i (.lst []))
  | none => .stuck
theorem zb5 : cl_ A i (some l) = .ok .non (A.set i (.lst [])) := rfl
theorem z2x : oClear (.ref i) A = cl_ A i (sq_ A[i]?) := by
  unfold oClear; rw [z38]; cases sq_ A[i]? <;> rfl
def si_ (A : Hs) (i : Nat) (y v : D) (u : Option O) : Option Hs := match u with
    | some (.lst l) => match y with
      | .int k => match ixN l.length k with
        | some n => some (A.set i (.lst (l.set n v)))
        | none => none
      | _ => none
    | some (.dic t false l) => if keyOk t y && decide (l.length < sizeLine) then some (A.set i (.dic t false (kput l y v))) else none
    | _ => none
theorem z4f : setIt A (.ref i) y z = si_ A i y z A[i]? := rfl
theorem zbo (h : 0 ≤ p ∧ p < (l.length : Int)) : si_ A i (.int p) z (some (.lst l)) = some (A.set i (.lst (l.set p.toNat z))) := by
  unfold si_; simp only [ixN_nat h.1 h.2]
theorem zc1 (h : kv.length < 16000000) : si_ A i y z (some (.dic t false kv)) = if keyOk t y = true then some (A.set i (.dic t false (kput kv y z))) else none := by
  unfold si_; simp only [decide_eq_true (small_line' h), Bool.and_true]
def gn_ (p : Int) : Option (List D) → Option D
  | some l => if 0 ≤ p then l[p.toNat]? else none
  | none => none
theorem zbf : gn_ p (some l) = if 0 ≤ p then l[p.toNat]? else none := rfl
theorem z5x : getN A (.ref i) (.int p) = gn_ p (sq_ A[i]?) := by
  unfold getN; rw [z7k]; cases sq_ A[i]? <;> rfl
def il_ : Option O → Bool
  | some (.lst _) => true
  | _ => false
theorem zc6 : il_ (some (.lst l)) = true := rfl
theorem zb1 : il_ (some (.dic t lk kv)) = false := rfl
theorem z3g : isLst A (.ref i) = il_ A[i]? := by unfold isLst il_; rfl
def dg_ (A : Hs) (y : D) : Option O → RE D
  | some (.dic t _ kv) => if keyOk t y = true then at_ A (kget kv y) else .stuck
  | _ => .stuck
theorem zb7 : dg_ A y (some (.dic t lk kv)) = if keyOk t y = true then at_ A (kget kv y) else .stuck := rfl
theorem z3x : oDGet (.ref i) y A = dg_ A y A[i]? := by
  unfold oDGet dicAt
  rcases h : A[i]? with _ | u
  · simp only [h]; rfl
  · cases u with
    | dic t lk kv => simp only [h, dg_]; unfold at_; split <;> first | rfl | (cases kget kv y <;> rfl)
    | _ => simp only [h]; rfl
def wl_ (A : Hs) (i : Nat) : Option O → Option Wk
  | some (.lst l) => some ⟨l, fun A' => A'[i]? = some (.lst l)⟩
  | _ => none
theorem zad : wl_ A i (some (.lst l)) = some ⟨l, fun A' => A'[i]? = some (.lst l)⟩ := rfl
theorem z8s : wkA A (.ref i) = wl_ A i A[i]? := by
  unfold wkA wkL wl_
  rcases h : A[i]? with _ | u
  · simp only [h]
  · cases u <;> simp only [h]
def we_ (A : Hs) (i : Nat) : Option O → Option Wk
  | some (.lst l) => some ⟨enumL l, fun A' => A'[i]? = some (.lst l)⟩
  | _ => none
theorem zc8 : we_ A i (some (.lst l)) = some ⟨enumL l, fun A' => A'[i]? = some (.lst l)⟩ := rfl
theorem za1 : wkE A (.ref i) = we_ A i A[i]? := by
  unfold wkE wkL we_
  rcases h : A[i]? with _ | u
  · simp only [h]; rfl
  · cases u <;> simp only [h] <;> rfl
/-! lists of truths, numbers -/
def al_ (A : Hs) : Option (List Bool) → RE D
  | some bs => .ok (.bl (bs.all id)) A
  | none => .stuck
theorem zbs {bs : List Bool} : al_ A (some bs) = .ok (.bl (bs.all id)) A := rfl
theorem z6u : oAll x A = al_ A ((seqL A x).bind boolsOf) := by unfold oAll al_; rfl
def sm_ (A : Hs) : Option (List Int) → RE D
  | some bs => .ok (.int bs.sum) A
  | none => .stuck
theorem zbq {ns : List Int} : sm_ A (some ns) = .ok (.int ns.sum) A := rfl
theorem z6b : oSum x A = sm_ A ((seqL A x).bind intsOf) := by unfold oSum sm_; rfl
theorem z3f {α β : Type} {f : α → Option β} {x : α} : (some x).bind f = f x := rfl
/-! places -/
theorem zaf (h : i < A.length) : (A.set i u)[i]? = some u := List.getElem?_set_self h
theorem z3r (h : i ≠ j) : (A.set i u)[j]? = A[j]? := List.getElem?_set_ne h
theorem z8e (h : j < A.length) : (A ++ [u])[j]? = A[j]? := List.getElem?_append_left h
theorem zbj : (A ++ [u])[A.length]? = some u := by simp
theorem z9e (h : j = A.length) : (A ++ [u])[j]? = some u := by subst h; simp
theorem z2l : (A ++ [u]).length = A.length + 1 := by simp
theorem z2g : kget [] y = none := rfl
theorem z1k : kget ((x, z) :: kv) y = if keq x y = true then some z else kget kv y := by rw [kget]
theorem zaj : il_ (some (.obj C fs)) = false := rfl
theorem z8x : (Wk.mk l tt).gd = tt := rfl
theorem z8f {gd : Hs → Prop} : (Wk.mk l gd).ds = l := rfl
theorem z7u {gd : Hs → Prop} : (Wk.mk l gd).gd = gd := rfl
theorem z31 : wipeS env [] = env := rfl
theorem z1l {vs : List Nat} : wipeS env (i :: vs) = (wipeS env vs).set i none := by rw [wipeS]
/-- a result, by what holds of it -/
def Rk {α : Type} (r : RE α) (P : α → Hs → Prop) : Prop := match r with
  | .ok v A => P v A
  | _ => False
theorem z8z {α : Type} {x : α} {P : α → Hs → Prop} : Rk (.ok x A) P = P x A := rfl
theorem Rk.ex {α : Type} {r : RE α} {P : α → Hs → Prop} (h : Rk r P) : ∃ v A1, r = .ok v A1 ∧ P v A1 := by
  cases r with
  | ok v A1 => exact ⟨v, A1, rfl, h⟩
  | _ => exact h.elim
theorem Rk.of {α : Type} {r : RE α} {P : α → Hs → Prop} {x : α} (e : r = .ok x A) (h : P x A) : Rk r P := by rw [e]; exact h
theorem Rk.mono {α : Type} {r : RE α} {P P2 : α → Hs → Prop} (h : Rk r P) (k : ∀ v A, P v A → P2 v A) : Rk r P2 := by
  obtain ⟨v, A1, e, p⟩ := h.ex
  exact .of e (k v A1 p)
theorem Rk.make {P : D → Hs → Prop} {ds : List D} (h : Rk (F (.ref A.length :: ds) (A ++ [.obj C []])) fun v A1 => v = .non ∧ P (.ref A.length) A1) : Rk (make C F ds A) P := by
  obtain ⟨v, A1, e, rfl, p⟩ := h.ex
  exact .of (make_ok e) p
/-- a call in the goal, by what is known of it -/
theorem Rk.call {α : Type} {r : RE α} {P : α → Hs → Prop} (Q : RE α → Prop) (h : Rk r P) (k : ∀ v A1, P v A1 → Q (.ok v A1)) : Q r := by
  obtain ⟨v, A1, e, p⟩ := h.ex
  rw [e]; exact k v A1 p
/-- one turn of a loop: J where it goes on, R where the loop ends -/
def Trn (J : Sl → Hs → Prop) (R : RS → Prop) (r : RS) : Prop := match r with
  | .nx e A => J e A
  | .ct e A => J e A
  | .rt d A => R (.rt d A)
  | .bk e A => R (.nx e A)
  | .exc C e A => R (.exc C e A)
  | .stuck => False
theorem z8d {J : Sl → Hs → Prop} {R : RS → Prop} : Trn J R (.nx env A) = J env A := rfl
theorem z7w {J : Sl → Hs → Prop} {R : RS → Prop} : Trn J R (.ct env A) = J env A := rfl
theorem z9w {J : Sl → Hs → Prop} {R : RS → Prop} : Trn J R (.rt d A) = R (.rt d A) := rfl
theorem z99 {J : Sl → Hs → Prop} {R : RS → Prop} : Trn J R (.bk env A) = R (.nx env A) := rfl
theorem z76 {J : Sl → Hs → Prop} {R : RS → Prop} : Trn J R (.exc C env A) = R (.exc C env A) := rfl
def Tst (s : Hs → Prop) (k : Hs → Prop) (c : Bool) (A : Hs) : Prop := match c with
  | true => s A
  | false => k A
theorem z97 {s k : Hs → Prop} : Tst s k true A = s A := rfl
theorem z96 {s k : Hs → Prop} : Tst s k false A = k A := rfl
theorem z84 {s k : Hs → Prop} {c : Prop} [Decidable c] : Tst s k (decide c) A = if c then s A else k A := by
  by_cases h : c
  · simp [h, Tst]
  · simp [h, Tst]
def Got (r : Option Sl) (P : Sl → Prop) : Prop := match r with
  | some e => P e
  | none => False
theorem z95 {P : Sl → Prop} : Got (some env) P = P env := rfl
theorem for_go {g : G} {gd : Hs → Prop} (I : Nat → Sl → Hs → Prop) (R : RS → Prop) {ds : List D} (h0 : I 0 env A) (hg : ∀ i e A, i ≤ ds.length → I i e A → gd A)
    (hs : ∀ i e A d, ds[i]? = some d → I i e A → Got (g d e A) fun e1 => Trn (I (i + 1)) R (f e1 A))
    (hd : ∀ e A, I ds.length e A → R (.nx e A)) : R (forL g f gd ds env A) := by
  refine for_inv I R h0 hg (fun i e A d hd hI => ?_) hd
  have h2 := hs i e A d hd hI
  cases q0 : g d e A with
  | none => rw [q0] at h2; exact h2.elim
  | some e1 =>
    rw [q0, z95] at h2
    refine ⟨e1, rfl, ?_⟩
    cases q : f e1 A with
    | nx e2 A2 => rw [q] at h2; exact .inl ⟨e2, A2, .inl rfl, h2⟩
    | ct e2 A2 => rw [q] at h2; exact .inl ⟨e2, A2, .inr rfl, h2⟩
    | rt d2 A2 => rw [q] at h2; exact .inr (.inl ⟨d2, A2, rfl, h2⟩)
    | bk e2 A2 => rw [q] at h2; exact .inr (.inr (.inl ⟨e2, A2, rfl, h2⟩))
    | exc C e2 A2 => rw [q] at h2; exact .inr (.inr (.inr ⟨C, e2, A2, rfl, h2⟩))
    | stuck => rw [q] at h2; exact h2.elim
/-- a comprehension of pure parts over what its walk gives, as simp shows it -/
theorem lc_go {g : G} {t : Tt} {gd : Hs → Prop} (p : D → Bool) (h : D → D) {ds : List D} (hgd : gd A) (hl : ds.length < 16000000)
    (hs : ∀ d ∈ ds, Got (g d env A) fun e1 => Rk (t e1 A) fun c A1 => c = p d ∧ A1 = A ∧ (c = true → Rk (a e1 A) fun v A2 => v = h d ∧ A2 = A)) : lcL g t a gd env ds [] A = .ok ((ds.filter p).map h) A := by
  refine lc_pure p h hgd (by simpa using hl) fun d hd => ?_
  have h2 := hs d hd
  cases q0 : g d env A with
  | none => rw [q0] at h2; exact h2.elim
  | some e1 =>
    rw [q0, z95] at h2
    obtain ⟨c, A1, e, rfl, rfl, k⟩ := h2.ex
    refine ⟨e1, rfl, e, fun hp => ?_⟩
    obtain ⟨v, A2, e3, rfl, rfl⟩ := (k hp).ex
    exact e3
end
end SM

/-! ## enumerate over a tuple -/
namespace SM
open PySem L2 PySem.Spec PyProof.Rows
theorem meets_enumerate_newB1 {v : Value} {o : Obj} {H : Heap → Prop} (B : Begins v o H) :
    Meets (Builtin.«enumerate.__new__» ⟨[.type "enumerate", v], []⟩) (fun _ R s => H s.heap ∧
      R (.ok (.ret (.ref (s.heap.push o).objs.size))) { s with heap := (s.heap.push o).push { cls := .type "enumerate", data := .fields #[.none, .bool false, .ref s.heap.objs.size, rawInt 0, .none, .none] } }) :=
  .of_wp fun prog w A R s h => by
    obtain ⟨hp, g, d, tk, os⟩ := s; obtain ⟨h1, h⟩ := h
    have hsub := sub_enumerate
    have q1 : ∀ {A' : Around} {E : Value → Shared → Prop} {Q : Value → Shared → Prop}, Q (.ref hp.objs.size) ⟨hp.push o, g, d, tk, os⟩ → wpAny (model prog w) A' (pyIter v) Q E ⟨hp, g, d, tk, os⟩ :=
      fun q => B.iter prog w _ _ ⟨hp, g, d, tk, os⟩ _ h1 q
    wp_walk using q1
    refine wpAny_stack_any fun st => wpAny_pure ?_
    split
    · rename_i c _ _ _ _ _
      cases (c == Value.type "enumerate")
      · wp_walk using q1
        exact ⟨_, rfl, h⟩
      · wp_walk using q1
        exact ⟨_, rfl, h⟩
    · wp_walk using q1
      exact ⟨_, rfl, h⟩
section
variable {prog : Program} {w : World} {A : Around} {E : Value → Shared → Prop} {s : Shared}
theorem enum_begins1 {v : Value} {o : Obj} {H : Heap → Prop} {Q : Value → Shared → Prop} (B : Begins v o H) (h1 : H s.heap)
    (h : ∀ h', IsEnum h' (s.heap.objs.size + 1) s.heap.objs.size 0 .none → h'.get? s.heap.objs.size = some o → h'.objs.size = s.heap.objs.size + 2 →
      (∀ b o, s.heap.get? b = some o → h'.get? b = some o) → Q (.ref (s.heap.objs.size + 1)) { s with heap := h' }) :
    wpAny (model prog w) A (call (.type "enumerate") [v]) Q E s := by
  refine callType_new F.called_enumerate (by decide) (F.typeCall_enumerate_1 _) (F.newCall_enumerate_1 _) (fun obj => F.args_object_init_2 obj _) F.entry_enumerate_new
    (meets_enumerate_newB1 B) ⟨h1, ?_⟩
  have hz : (s.heap.push o).objs.size = s.heap.objs.size + 1 := Heap.size_push ..
  show _ ∧ _
  rw [hz]
  have he : IsEnum ((s.heap.push o).push { cls := .type "enumerate", data := .fields #[.none, .bool false, .ref s.heap.objs.size, rawInt 0, .none, .none] }) (s.heap.objs.size + 1) s.heap.objs.size 0 .none := by
    have := Heap.get?_push_size (s.heap.push o) (o := { cls := .type "enumerate", data := .fields #[.none, .bool false, .ref s.heap.objs.size, rawInt 0, .none, .none] }) rfl
    rw [hz] at this; exact this
  refine ⟨⟨_, he, rfl⟩, h _ he (Heap.get?_push_of_some _ (Heap.get?_push_size _ B.free)) (by rw [Heap.size_push, hz]) fun b o x => Heap.get?_push_of_some _ (Heap.get?_push_of_some _ x)⟩
end
/-- the tuple at a, each item in a new pair -/
def IteT (K : PySem.W.Frag) (a : Addr) : It :=
  ⟨fun i H => ∃ (xs : List V) (x : V), SqT K H a xs ∧ xs[i]? = some x, fun i H v H' => ∃ T x, v = .ref T ∧ H T = none ∧ H' = upd H T (.tup [.int (i : Nat), x]) ∧ ∀ xs, SqT K H a xs → xs[i]? = some x, fun i H => ∃ xs : List V, SqT K H a xs ∧ xs.length ≤ i⟩
theorem turn_enumT {P : Program} {w : World} {K : PySem.W.Frag} {elts : List Expr} {kk : Nat} {tpos : Pos} (a e it : Addr) :
    Turn P w K (.Tuple elts kk tpos) (IteT K a) [e, it] e (fun i h => (∃ old, IsEnum h e it ((i : Nat) : Int) old) ∧ h.IsTupleIter it a i ∧ e ≠ it) where
  mem := by simp
  obj := fun i h st b hb => by
    obtain ⟨⟨old, he⟩, ⟨o, ho, hc, hd⟩, _⟩ := st
    have e' : b = e ∨ b = it := by simpa using hb
    rcases e' with z | z
    · rw [z]; exact ⟨_, he, fun v q => nomatch q⟩
    · rw [z]; exact ⟨o, ho, fun v q => by rw [hd] at q; cases q⟩
  keep := fun i h h' st k => let ⟨⟨old, he⟩, hi, hne⟩ := st; ⟨⟨old, k e (by simp) _ he⟩, hi.at fun o q => k it (by simp) o q, hne⟩
  item := by
    intro X hP hw hK hc i pins s σ H E I hf st hg
    subst hP hw hK
    obtain ⟨⟨old, he⟩, hit, hne⟩ := st
    obtain ⟨xs, x, hq, hx⟩ := hg
    obtain ⟨its, rv, p, hz⟩ := I.tuple hq
    obtain ⟨u, hu, ru⟩ := rv.get hx
    have hel : e < s.heap.objs.size := Heap.lt_size he
    have hil : it < s.heap.objs.size := by obtain ⟨_, q, _⟩ := hit; exact Heap.lt_size q
    have hpT : s.heap.IsTuple a its.toArray := p
    have hai : a ≠ it := fun z => by
      subst z
      obtain ⟨o, ho, hc, hd⟩ := hit
      obtain ⟨o2, ho2, hc2, _⟩ := hpT
      rw [ho] at ho2; cases ho2
      rw [hc] at hc2; simp at hc2
    have hae : a ≠ e := fun z => by
      subst z
      obtain ⟨o2, ho2, hc2, _⟩ := hpT
      rw [he] at ho2; cases ho2
      simp at hc2
    have hlt : i < its.toArray.size := by
      rcases Nat.lt_or_ge i its.length with q | q
      · simpa using q
      · rw [List.getElem?_eq_none q] at hu; cases hu
    refine wpAny_pyNext_enum_itemD (A := X.A) (Draws.tuple (A := X.A.in1) (I.ok.hd hc) it a hai its.toArray) he ⟨hit, hpT⟩ hlt hne (by simp; exact ⟨hne, fun z => hae z.symm⟩) fun u' h' tk hP ho hst hT hsz hk => ?_
    obtain rfl : u' = u := by
      have : its.toArray[i]? = some u := by simpa using hu
      rw [this] at hP; cases hP; rfl
    refine ⟨_, rfl, wpAny_letOwnedTupleGo_enum (s := { s with heap := h', toks := tk + 1 }) ho fun h'' he' sb => ?_⟩
    have hT2 : h''.get? s.heap.objs.size = some { cls := .type "tuple", data := .seq #[.int i tk, u'] } := (sb.2 _ (Nat.ne_of_gt hel)).trans hT
    have new : ObjOk X.prog X.w (upd H s.heap.objs.size (.tup [.int (i : Nat), x])) h'' s.heap.objs.size (.tup [.int (i : Nat), x]) :=
      ⟨by show 2 ≤ sizeLine; decide, [.int i tk, u'], .cons ⟨_, rfl⟩ (.cons ru .nil), ⟨_, hT2, rfl, _, rfl⟩⟩
    have I1 : Inv X pins σ (upd H s.heap.objs.size (.tup [.int (i : Nat), x])) { s with heap := h'', toks := tk + 1 } :=
      I.turnedNew (ch := [e, it]) (fun b ob hb q => (sb.2 b (fun z => hb (by simp [z]))).trans (hk b ob (fun z => hb (by simp [z])) (fun z => hb (by simp [z])) q)) hf (Nat.le_refl _) new
    refine ⟨.ref s.heap.objs.size, _, I1, rfl, ⟨_, x, rfl, I.hok.fresh (Nat.le_refl _), rfl, fun ys hy => by rw [I.tuple_inj hy hq]; exact hx⟩, ⟨⟨u', ?_⟩, hst.1.at fun o q => (sb.2 it (Ne.symm hne)).trans q, hne⟩, fun b hb => ?_⟩
    · have e1 : ((i + 1 : Nat) : Int) = (i : Int) + 1 := by omega
      rw [e1]; exact he'
    · have hb' : b < s.heap.objs.size := by
        have e' : b = e ∨ b = it := by simpa using hb
        rcases e' with z | z
        · rw [z]; exact hel
        · rw [z]; exact hil
      rw [upd_ne (Nat.ne_of_lt hb')]
      exact (hf b hb).1
  done := by
    intro X hP hw hK hc i pins s σ H E I hf st hg
    subst hP hw hK
    obtain ⟨⟨old, he⟩, hit, hne⟩ := st
    obtain ⟨xs, hq, hx⟩ := hg
    obtain ⟨its, rv, p, hz⟩ := I.tuple hq
    obtain ⟨f0, f1, f2, f3, f4, f5⟩ := hf it (by simp)
    have hl := rv.length
    have hpT : s.heap.IsTuple a its.toArray := p
    have hT : s.TypeIs (.ref e) "enumerate" := ⟨_, he, rfl⟩
    unfold pyNext
    refine wpAny_bind (wpAny_attempt (wpAny_callSpecial?_slot (name := Str.ofString "__next__") hT F.slot_enumerate_next
      (wpAny_call_entry F.slot_enumerate_next hT F.entry_enumerate_next ?_ (F.args_enumerate_next_1 _))))
    show wpAny _ _ (field (.ref e) 2 >>= _) _ _ _
    refine wpAny_bind (wpAny_field he rfl (x := .ref it) rfl ?_)
    refine wpAny_bind (wpAny_nextOf_tuple_end (I.ok.hd hc) hit hpT (by simp; omega) fun h' x he' hx' => ?_)
    obtain ⟨o, ho, hc⟩ := hx'
    refine wpAny_bind (wpAny_isInstance (T := "StopIteration") (b := true) ⟨o, ho, hc⟩ isSubtype_stop ?_)
    exact wpAny_pure ⟨rfl, I.turned (t' := s.toks) (fun b o hb q => he' b o hb q) f0 f1 f3 f4 f5⟩
  self := fun A i s Q E st h => let ⟨⟨_, he⟩, _⟩ := st; wpAny_pyIter_enum he h
def iEnumT (K : PySem.W.Frag) (ta : TA) : TI := fun σ H R => ta σ H fun vs H1 => ∃ a xs, vs = [.ref a] ∧ SqT K H1 a xs ∧ R (IteT K a) H1
theorem pi_enumT {X : Cx} {e : Expr} {ta : TA} {p pos tpos : Pos} {elts : List Expr} {kk : Nat} (hg : Gl X "enumerate") (hm : X.mg "enumerate" = none) (ha : PA X [e] ta) (hs : starEach [e] X.env = [(false, eval e X.env)] := by rfl) :
    PI X (.Tuple elts kk tpos) (.Call (.Name "enumerate" p) [e] [] pos) (iEnumT X.K ta) := by
  refine ⟨fun pins s σ H R I h => ?_⟩
  refine PyProof.Rows.Call_ (ld_blt I hg hm boot_enumerate (PyProof.Rows.callWith_type1 (thn (ha.run pos pins s σ H _ I h) fun us s1 ⟨vs, H1, I1, r1, q1⟩ => ?_) hs rfl))
  obtain ⟨a, xs, ex, hq, q⟩ := q1
  subst ex
  cases r1 with
  | cons r rr =>
    cases rr
    cases r
    obtain ⟨its, rv, p', hz⟩ := I1.tuple hq
    have hpT : s1.heap.IsTuple a its.toArray := p'
    refine enum_begins1 (begins_tuple a its.toArray) hpT fun h' he hit hsz hk => wpAny_pyIter_enum he ?_
    have I2 : Inv X pins σ H1 { s1 with heap := h' } := I1.kept (t' := s1.toks) hk
    refine ⟨s1.heap.objs.size + 1, [s1.heap.objs.size + 1, s1.heap.objs.size], _, _, H1, rfl, I2, turn_enumT a (s1.heap.objs.size + 1) s1.heap.objs.size, ⟨⟨.none, he⟩, ⟨_, hit, rfl, rfl⟩, Nat.succ_ne_self _⟩, fun b hb => ?_, q⟩
    have e' : b = s1.heap.objs.size + 1 ∨ b = s1.heap.objs.size := by simpa using hb
    have hle : s1.heap.objs.size ≤ b := by
      rcases e' with z | z
      · rw [z]; exact Nat.le_add_right _ _
      · rw [z]; exact Nat.le_refl _
    exact I1.fpOk hle (I1.hok.fresh hle)
theorem PI.or {X : Cx} {tg e : Expr} {i1 i2 : TI} (h1 : PI X tg e i1) (h2 : PI X tg e i2) : PI X tg e (fun σ H R => i1 σ H R ∨ i2 σ H R) :=
  ⟨fun pins s σ H R I h => h.elim (h1.run pins s σ H R I) (h2.run pins s σ H R I)⟩
section
variable {K : PySem.W.Frag} {ca : CaT} {W : WX} {te : TE} {a : E}
theorem walk_enumT {a : Addr} {vs : List V} : Walk (IteT K a) vs.length (fun H => SqT K H a vs) (fun i H v H' => ∃ T x, v = .ref T ∧ H T = none ∧ H' = upd H T (.tup [.int (i : Nat), x]) ∧ ∀ xs, SqT K H a xs → xs[i]? = some x) :=
  ⟨fun i _ hi q => ⟨vs, vs[i]'hi, q, by simp [hi]⟩, fun _ q => ⟨vs, q, Nat.le_refl _⟩, fun _ _ _ _ _ _ y => y⟩
def wkET (A : Hs) (x : D) : Option Wk := (wkT A x).map fun k => ⟨enumL k.ds, k.gd⟩
theorem sw_enumT (h : SimE K ca W te a) : SimI K ca W (iEnumT K (tCons te tNil)) (wOf wkET a) := fun F m A σ H env Q R S p => wOf_bind h R S p fun F1 m1 A1 H1 x d kk R1 r hk p1 => by
  have main : ∀ {aa : Addr} {vs : List V} {l : List D}, SqT K F1 aa vs → RepL K ca F1 m1 vs l → kk = ⟨enumL l, tt⟩ → x = .ref aa → ∃ a xs, [x] = [.ref a] ∧ SqT K H1 a xs ∧ Q (IteT K a) H1 := fun {aa vs l} s rs e ex => by
    subst e; subst ex
    refine ⟨aa, vs, rfl, R1.fh.t s, p1 _ F1 m1 H1 R1 Stp.refl ⟨fun H => SqT K H aa vs, _, by rw [show (Wk.mk (enumL l) tt).ds.length = vs.length from enumL_len.trans rs.length.symm]; exact walk_enumT, fun F2 m2 A2 H2 hg R2 g2 => R2.fh.t (g2.ff.t s), fun i' d' x' F2 m2 A2 H2 H3 e hg R2 g2 y => .inr (.inl ?_)⟩⟩
    obtain ⟨T, z, y1, y2, y3, y4⟩ := y
    obtain ⟨dx, q1, q2⟩ := enumL_get e
    obtain ⟨w, w1, w2⟩ := rs.get q1
    have := y4 _ (R2.fh.t (g2.ff.t s))
    rw [w1] at this; cases this
    exact ⟨T, _, _, q2, y1, y2, y3, .cons (.int _) (.cons (w2.mono g2.ff g2.mm) .nil)⟩
  cases r with
  | tup s rs => cases hk; exact main (.inl (.inl s)) rs rfl rfl
  | wt s rs => cases hk; exact main s rs rfl rfl
  | _ => cases hk
def wkEA (A : Hs) (x : D) : Option Wk := match x with
  | .tup _ => wkET A x
  | .wt _ => wkET A x
  | _ => wkE A x
def iEnumA (K : PySem.W.Frag) (ta : TA) : TI := fun σ H R => iEnum K ta σ H R ∨ iEnumT K ta σ H R
theorem sw_enumA (h : SimE K ca W te a) : SimI K ca W (iEnumA K (tCons te tNil)) (wOf wkEA a) := SimI.pick (sw_enum h) (sw_enumT h) (wOf_pick (f := wkEA) fun A x => by cases x <;> first | exact .inl rfl | exact .inr rfl)
theorem pi_enumA {X : Cx} {e : Expr} {ta : TA} {p pos tpos : Pos} {elts : List Expr} {kk : Nat} (hg : Gl X "enumerate") (hm : X.mg "enumerate" = none) (ha : PA X [e] ta) (hs : starEach [e] X.env = [(false, eval e X.env)] := by rfl) :
    PI X (.Tuple elts kk tpos) (.Call (.Name "enumerate" p) [e] [] pos) (iEnumA X.K ta) := PI.or (pi_enum hg hm ha hs) (pi_enumT hg hm ha hs)
theorem z2o {A : Hs} {i : Nat} : wkEA A (.ref i) = we_ A i A[i]? := za1
theorem z2r {A : Hs} {l : List D} : wkEA A (.tup l) = some ⟨enumL l, tt⟩ := rfl
theorem z29 {A : Hs} {l : List D} : wkEA A (.scr l) = some ⟨enumL l, tt⟩ := rfl
end
end SM

/-! ## d.pop(k), d.pop(k, e) -/
namespace SM
open PySem L2
open DL (Ex ExK)
section
variable {K : PySem.W.Frag} {ca : CaT} {F F1 F2 H H1 H2 : Hp} {m m1 m2 : List Addr} {A A1 A2 : Hs} {σ : L2.St} {env : Sl} {W : WX} {Q : VK}
variable {to ti ta tb tc te tz : TE} {a b c e : E} {i : Nat} {d : D} {ts : TA} {as : As} {x y : V} {dx dy : D}
def oDPop (x y : D) (A : Hs) : RE D := match x with
  | .ref i => match A[i]? with
    | some (.dic false false l) => match keyK y, kget l y with
      | some _, some d => .ok d (A.set i (.dic false false (kdel l y)))
      | _, _ => .stuck
    | _ => .stuck
  | _ => .stuck
def ePop1 (a b : E) : E := fun env A => (a env A).bind fun x A1 => if isDic A1 x then (b env A1).bind fun y A2 => oDPop x y A2 else if (seqL A1 x).isSome then ((aCons b aNil) env A1).bind fun ds A2 => oPopAt x ds A2 else .stuck
/-- with a way out -/
def oDPop2 (x y z : D) (A : Hs) : RE D := match x with
  | .ref i => match A[i]? with
    | some (.dic false false l) => match keyK y with
      | some _ => match kget l y with
        | some d => .ok d (A.set i (.dic false false (kdel l y)))
        | none => .ok z A
      | _ => .stuck
    | _ => .stuck
  | _ => .stuck
def eDPop2 (a b c : E) : E := fun env A => (a env A).bind fun x A1 => if isDic A1 x then (b env A1).bind fun y A2 => (c env A2).bind fun z A3 => oDPop2 x y z A3 else .stuck
end
section
variable {A : Hs} {env : Sl} {a b c : E} {i : Nat} {x y z d : D} {kv : List (D × D)} {l : List D} {fs : List (String × D)} {C : String} {t lk : Bool} {n : Nat}
def isd_ : Option O → Bool
  | some (.dic _ _ _) => true
  | _ => false
theorem z98 : isd_ (some (.dic t lk kv)) = true := rfl
theorem z8g : isd_ (some (.lst l)) = false := rfl
theorem z3e : isDic A (.ref i) = isd_ A[i]? := by
  unfold isDic dicAt
  rcases h : A[i]? with _ | u
  · simp only [h]; rfl
  · cases u <;> simp only [h] <;> rfl
theorem z0x : isDic A (.scr l) = false := rfl
theorem z70 : ePop1 a b env A = (a env A).bind fun x A1 => if isDic A1 x = true then (b env A1).bind fun y A2 => oDPop x y A2 else if (seqL A1 x).isSome = true then ((aCons b aNil) env A1).bind fun ds A2 => oPopAt x ds A2 else .stuck := rfl
theorem z4g : eDPop2 a b c env A = (a env A).bind fun x A1 => if isDic A1 x = true then (b env A1).bind fun y A2 => (c env A2).bind fun z A3 => oDPop2 x y z A3 else .stuck := rfl
def dp_ (A : Hs) (i : Nat) (y : D) (kv : List (D × D)) : Option D → RE D
  | some d => if (keyK y).isSome = true then .ok d (A.set i (.dic false false (kdel kv y))) else .stuck
  | none => .stuck
theorem zay : dp_ A i y kv (some d) = if (keyK y).isSome = true then .ok d (A.set i (.dic false false (kdel kv y))) else .stuck := rfl
def dpo_ (A : Hs) (i : Nat) (y : D) : Option O → RE D
  | some (.dic false false kv) => dp_ A i y kv (kget kv y)
  | _ => .stuck
theorem z9h : dpo_ A i y (some (.dic false false kv)) = dp_ A i y kv (kget kv y) := rfl
theorem z4z : oDPop (.ref i) y A = dpo_ A i y A[i]? := by
  unfold oDPop dpo_ dp_
  rcases h : A[i]? with _ | u
  · simp only [h]
  · cases u with
    | dic t lk kv => cases t <;> cases lk <;> simp only [h] <;> (cases keyK y <;> cases kget kv y <;> rfl)
    | _ => simp only [h]
theorem z6h {p : Int} : keyK (.int p) = some (.inl p) := rfl
theorem z5m {s : Str} : keyK (.str s) = some (.inr s) := rfl
theorem z39 {s : String} : keyK (dS s) = some (.inr (fS s)) := rfl
/-- y in a list's, tuple's items -/
def inl_ (A : Hs) (y : D) (l : List D) (neg : Bool) : RE D := match pyA A 40 y, allSome (l.map (pyA A 39)) with
  | some p, some ps => .ok (.bl (if neg then !(ps.any fun z => PyData.eqv z p) else ps.any fun z => PyData.eqv z p)) A
  | _, _ => .stuck
def in_ (A : Hs) (y : D) (neg : Bool) : Option O → RE D
  | some (.dic t _ kv) => if keyOk t y = true then .ok (.bl (if neg then !(kget kv y).isSome else (kget kv y).isSome)) A else .stuck
  | some (.lst l) => inl_ A y l neg
  | _ => .stuck
theorem zb0 {neg : Bool} : in_ A y neg (some (.dic t lk kv)) = if keyOk t y = true then .ok (.bl (if neg then !(kget kv y).isSome else (kget kv y).isSome)) A else .stuck := rfl
theorem zbw {neg : Bool} : in_ A y neg (some (.lst l)) = inl_ A y l neg := rfl
theorem inData_l (h : pyA A 40 x = (allSome (l.map (pyA A 39))).map PyData.list ∨ pyA A 40 x = (allSome (l.map (pyA A 39))).map PyData.tuple) : inData A y x = match pyA A 40 y, allSome (l.map (pyA A 39)) with
  | some p, some ps => some (ps.any fun z => PyData.eqv z p)
  | _, _ => none := by
  unfold inData
  rcases h with h | h <;> rw [h] <;> (cases pyA A 40 y <;> cases allSome (l.map (pyA A 39)) <;> rfl)
theorem z8h : oIn y (.ref i) A = in_ A y false A[i]? := by
  unfold oIn oB inA
  rcases h : A[i]? with _ | u
  · have : pyA A 40 (.ref i) = none := by rw [pyA]; simp only [h]
    simp only [dicAt, h, inData, this]; cases pyA A 40 y <;> rfl
  · cases u with
    | dic t lk kv => simp only [dicAt, h, inDic, zb0]; cases keyOk t y <;> simp [Option.map]
    | lst l =>
      have := inData_l (A := A) (x := .ref i) (y := y) (l := l) (.inl (py_lst h))
      simp only [dicAt, h, this, zbw, inl_]
      cases pyA A 40 y <;> cases allSome (l.map (pyA A 39)) <;> rfl
    | obj C f =>
      have : pyA A 40 (.ref i) = none := by rw [pyA]; simp only [h]
      simp only [dicAt, h, inData, this]; cases pyA A 40 y <;> rfl
    | nd _ =>
      have : pyA A 40 (.ref i) = none := by rw [pyA]; simp only [h]
      simp only [dicAt, h, inData, this]; cases pyA A 40 y <;> rfl
theorem z25 : oNotIn y (.ref i) A = in_ A y true A[i]? := by
  unfold oNotIn oB inA
  rcases h : A[i]? with _ | u
  · have : pyA A 40 (.ref i) = none := by rw [pyA]; simp only [h]
    simp only [dicAt, h, inData, this]; cases pyA A 40 y <;> rfl
  · cases u with
    | dic t lk kv => simp only [dicAt, h, inDic, zb0]; cases keyOk t y <;> simp [Option.map]
    | lst l =>
      have := inData_l (A := A) (x := .ref i) (y := y) (l := l) (.inl (py_lst h))
      simp only [dicAt, h, this, zbw, inl_]
      cases pyA A 40 y <;> cases allSome (l.map (pyA A 39)) <;> rfl
    | obj C f =>
      have : pyA A 40 (.ref i) = none := by rw [pyA]; simp only [h]
      simp only [dicAt, h, inData, this]; cases pyA A 40 y <;> rfl
    | nd _ =>
      have : pyA A 40 (.ref i) = none := by rw [pyA]; simp only [h]
      simp only [dicAt, h, inData, this]; cases pyA A 40 y <;> rfl
theorem z7z : oIn y (.tup l) A = inl_ A y l false := by
  have := inData_l (A := A) (x := .tup l) (y := y) (l := l) (.inr (by rw [pyA]))
  unfold oIn oB inA
  simp only [dicAt, this, inl_]
  cases pyA A 40 y <;> cases allSome (l.map (pyA A 39)) <;> rfl
theorem z26 : oNotIn y (.tup l) A = inl_ A y l true := by
  have := inData_l (A := A) (x := .tup l) (y := y) (l := l) (.inr (by rw [pyA]))
  unfold oNotIn oB inA
  simp only [dicAt, this, inl_]
  cases pyA A 40 y <;> cases allSome (l.map (pyA A 39)) <;> rfl
theorem py_ints {ns : List Int} : allSome ((ns.map D.int).map (pyA A n)) = some (ns.map PyData.int) := by
  induction ns with
  | nil => rfl
  | cons b r ih => rw [List.map_cons, List.map_cons, show pyA A n (.int b) = some (.int b) by cases n <;> simp [pyA], allSome, ih]; rfl
theorem z2c {ns : List Int} {p : Int} {neg : Bool} : inl_ A (.int p) (ns.map D.int) neg = .ok (.bl (if neg then !decide (p ∈ ns) else decide (p ∈ ns))) A := by
  unfold inl_
  rw [py_ints, show pyA A 40 (.int p) = some (.int p) by simp [pyA]]
  have : ((ns.map PyData.int).any fun z => PyData.eqv z (.int p)) = decide (p ∈ ns) := by
    rw [List.any_map]
    induction ns with
    | nil => rfl
    | cons b r ih =>
      rw [List.any_cons, ih]
      simp [PyData.eqv]
      congr 1
      rw [Bool.eq_iff_iff, beq_iff_eq, decide_eq_true_eq]; exact eq_comm
  simp only [this]
end
end SM

/-! ## more equations -/
namespace SM
open PySem L2
section
variable {A A1 A2 : Hs} {env : Sl} {a b c : E} {x y z d : D} {l : List D} {os xs : List String} {tb : List (String × String × Bool)} {s : String}
theorem z1g : oIsi os xs tb (dS s) (.ty "str") A = .ok (.bl true) A := rfl
theorem z1f : oIsi os xs tb (dS s) (.ty "int") A = .ok (.bl false) A := rfl
theorem z0n : oIsi os xs tb (dS s) (.ty "bool") A = .ok (.bl false) A := rfl
theorem z04 : oIsi os xs tb (dS s) (.ty "tuple") A = .ok (.bl false) A := rfl
/-- a comprehension by what stays true of what it has made -/
theorem lc_run {g : G} {t : Tt} {gd : Hs → Prop} (P : Nat → List D → Hs → Prop) {ds : List D} (h0 : P 0 [] A) (hl : ds.length < 16000000) (hg : ∀ i l A, P i l A → gd A)
    (hs : ∀ i d, ds[i]? = some d → ∀ l A, P i l A → Got (g d env A) fun e1 => Rk (t e1 A) (Tst (fun A1 => Rk (a e1 A1) fun v A2 => P (i + 1) (l ++ [v]) A2) fun A1 => P (i + 1) l A1)) : Rk (lcL g t a gd env ds [] A) (P ds.length) := by
  have main : ∀ (n i : Nat) (acc : List D) (A : Hs), n + i = ds.length → P i acc A → acc.length ≤ i → Rk (lcL g t a gd env (ds.drop i) acc A) (P ds.length) := by
    intro n
    induction n with
    | zero =>
      intro i acc A hi h0 hle
      have : i = ds.length := by omega
      subst this
      rw [List.drop_length, lcL, if_pos (hg _ _ _ h0)]; exact h0
    | succ n ih =>
      intro i acc A hi h0 hle
      have hlt : i < ds.length := by omega
      have h2 := hs i ds[i] (by simp [hlt]) acc A h0
      rw [List.drop_eq_getElem_cons hlt]
      cases q0 : g ds[i] env A with
      | none => rw [q0] at h2; exact h2.elim
      | some e1 =>
        rw [q0, z95] at h2
        obtain ⟨c, A1, e, h3⟩ := h2.ex
        rw [lcL, if_pos (hg _ _ _ h0), q0]
        simp only [e]
        cases c with
        | false => exact ih (i + 1) acc A1 (by omega) h3 (by omega)
        | true =>
          obtain ⟨v, A2, e2, h4⟩ := Rk.ex h3
          simp only [e2]
          rw [if_pos (small_line' (by omega))]
          exact ih (i + 1) _ A2 (by omega) h4 (by rw [List.length_append, List.length_singleton]; omega)
  have := main ds.length 0 [] A rfl h0 (Nat.le_refl _)
  rwa [List.drop_zero] at this
def kset_ (y v : D) (kv : List (D × D)) : List (D × D) := kv.map fun p => if keq p.1 y then (p.1, v) else p
theorem z1x {v : D} : kset_ y v [] = [] := rfl
theorem z0q {v : D} {kv : List (D × D)} : kset_ y v ((x, z) :: kv) = (if keq x y = true then (x, v) else (x, z)) :: kset_ y v kv := rfl
theorem z2d : khas [] y = false := rfl
theorem z1i {kv : List (D × D)} : khas ((x, z) :: kv) y = if keq x y = true then true else khas kv y := by
  unfold khas; rw [List.any_cons]; cases keq x y <;> rfl
theorem z1v {v : D} : kput [] y v = [(y, v)] := rfl
theorem z1b {v : D} {kv : List (D × D)} : kput ((x, z) :: kv) y v = if khas ((x, z) :: kv) y = true then kset_ y v ((x, z) :: kv) else ((x, z) :: kv) ++ [(y, v)] := rfl
theorem z9f : dNil env A = .ok [] A := rfl
theorem z67 {k v : E} {r : Dps} : dCons k v r env A = (k env A).bind fun x A1 => (v env A1).bind fun y A2 => (r env A2).bind fun ps A3 => .ok ((x, y) :: ps) A3 := rfl
def dsp_ (A : Hs) (ps : List (D × D)) : RE D := if (ps.all fun p => (keyK p.1).isSome) && decide (ps.length ≤ 15) then alloc A (.dic false false (kmerge [] ps)) else .stuck
theorem z63 {d : Dps} : eDisp d env A = (d env A).bind fun ps A1 => dsp_ A1 ps := rfl
theorem z5c {ps : List (D × D)} (h : (ps.all fun p => (keyK p.1).isSome) = true) (hl : ps.length ≤ 15) : dsp_ A ps = .ok (.ref A.length) (A ++ [.dic false false (kmerge [] ps)]) := by
  unfold dsp_; rw [h, decide_eq_true hl]; rfl
theorem z0d {l : List (D × D)} : kmerge l [] = l := by rw [kmerge]
theorem z01 {l r : List (D × D)} {v : D} : kmerge l ((x, v) :: r) = kmerge (kput l x v) r := by rw [kmerge]
end
end SM

/-! ## min of four -/
namespace PySem
open Sem (wp)
section
variable {prog : Program} {w : World} {A : Around} {E : Value → Shared → Prop} {s : Shared}
end
end PySem
namespace SM
open PySem L2
section
variable {K : PySem.W.Frag} {ca : CaT}
def c4 (f : D → D → D → D → Hs → RE D) : List D → Hs → RE D := fun ds A => match ds with
  | [d, e, g, h] => f d e g h A
  | _ => .stuck
def oMin4 (x y z w : D) (A : Hs) : RE D := match x, y, z, w with
  | .int i, .int j, .int k, .int l => .ok (.int (min (min (min i j) k) l)) A
  | _, _, _, _ => .stuck
end
theorem c4_ {A : Hs} {d d1 d2 d3 : D} {f : D → D → D → D → Hs → RE D} : c4 f [d, d1, d2, d3] A = f d d1 d2 d3 A := rfl
theorem z4n {A : Hs} {p q r s : Int} : oMin4 (.int p) (.int q) (.int r) (.int s) A = .ok (.int (min (min (min p q) r) s)) A := rfl
def ad_ (A : Hs) : Option (List D) → Option (List D) → RE D
  | some l, some k => if l.length + k.length ≤ sizeLine then .ok (.ref A.length) (A ++ [.lst (l ++ k)]) else .stuck
  | _, _ => .stuck
theorem zbb {A : Hs} {l k : List D} (h : l.length + k.length ≤ 16000000) : ad_ A (some l) (some k) = .ok (.ref A.length) (A ++ [.lst (l ++ k)]) := by
  show (if l.length + k.length ≤ sizeLine then _ else _) = _
  rw [if_pos (z0i h)]
theorem z7b {A : Hs} {i j : Nat} : oAdd (.ref i) (.ref j) A = ad_ A (sq_ A[i]?) (sq_ A[j]?) := by
  unfold oAdd ad_ sq_
  simp only
  rcases A[i]? with _ | u
  · rfl
  · cases u with
    | lst l =>
      rcases A[j]? with _ | v
      · rfl
      · cases v <;> rfl
    | _ => rfl
/-- a statement that goes on, by what holds of it -/
def Nx (r : RS) (P : Sl → Hs → Prop) : Prop := match r with
  | .nx e A => P e A
  | _ => False
theorem z8r {e : Sl} {A : Hs} {P : Sl → Hs → Prop} : Nx (.nx e A) P = P e A := rfl
theorem Nx.call {r : RS} {P : Sl → Hs → Prop} (Q : RS → Prop) (h : Nx r P) (k : ∀ e A, P e A → Q (.nx e A)) : Q r := by
  cases r with
  | nx e A => exact k e A h
  | _ => exact h.elim
theorem rep_nS {n : Nat} : List.replicate (n + 1) (none : Option D) = none :: List.replicate n none := rfl
theorem rep_n0 : List.replicate 0 (none : Option D) = [] := rfl
end SM

/-! ## list.index of flat items -/
namespace SM
open PySem L2
open DL (Ex ExK)
def fV : D → Option V
  | .non => some .non
  | .bl b => some (.bl b)
  | .int i => some (.int i)
  | .str s => some (.str s)
  | _ => none
def fVs : List D → Option (List V)
  | [] => some []
  | d :: r => match fV d, fVs r with
    | some v, some vs => some (v :: vs)
    | _, _ => none
section
variable {K : PySem.W.Frag} {ca : CaT} {F : Hp} {m : List Addr}
end
/-- the first place of y -/
def idxV (y : V) : List V → Option Nat
  | [] => none
  | z :: r => if eqV z y = true then some 0 else (idxV y r).map (· + 1)
def oIndex (x : D) (ds : List D) (A : Hs) : RE D := match (seqL A x).bind fVs, ds with
  | some ws, [d] => match fV d with
    | some y => match idxV y ws with
      | some j => .ok (.int (j : Nat)) A
      | none => .stuck
    | none => .stuck
  | _, _ => .stuck
section
variable {K : PySem.W.Frag} {ca : CaT}
end
/-! equations -/
section
variable {A : Hs} {x y d : D} {i : Nat} {l : List D}
def ix3 (A : Hs) (y : V) : Option (List V) → RE D
  | some ws => at_ A ((idxV y ws).map fun j => .int (j : Nat))
  | none => .stuck
theorem z28 {b : Bool} : oIndex (.ref i) [.bl b] A = ix3 A (.bl b) ((sq_ A[i]?).bind fVs) := by
  unfold oIndex ix3; rw [z7k]
  cases (sq_ A[i]?).bind fVs with
  | none => rfl
  | some ws => simp only [fV]; cases idxV (V.bl b) ws <;> rfl
theorem z1t {n : Int} : oIndex (.ref i) [.int n] A = ix3 A (.int n) ((sq_ A[i]?).bind fVs) := by
  unfold oIndex ix3; rw [z7k]
  cases (sq_ A[i]?).bind fVs with
  | none => rfl
  | some ws => simp only [fV]; cases idxV (V.int n) ws <;> rfl
theorem z7v {y : V} {ws : List V} : ix3 A y (some ws) = at_ A ((idxV y ws).map fun j => .int (j : Nat)) := rfl
theorem z4d : fVs [] = some [] := rfl
theorem z8v {b : Bool} {r : List D} : fVs (.bl b :: r) = (fVs r).map (V.bl b :: ·) := by
  conv => lhs; unfold fVs
  simp only [fV]; cases fVs r <;> rfl
theorem z9b {b : Int} {r : List D} : fVs (.int b :: r) = (fVs r).map (V.int b :: ·) := by
  conv => lhs; unfold fVs
  simp only [fV]; cases fVs r <;> rfl
theorem z1w {y : V} : idxV y [] = none := rfl
theorem z5n {b c : Bool} {r : List V} : idxV (.bl c) (.bl b :: r) = if b = c then some 0 else (idxV (.bl c) r).map (· + 1) := by
  rw [idxV]; cases b <;> cases c <;> rfl
end
/-! try, count -/
section
variable {A A1 : Hs} {env e1 : Sl} {d : D} {i j : Nat} {C : String} {cts : List String} {b s : S}
def tryK_ (cts : List String) (i j : Nat) (r : RS) : RS := match r with
  | .exc C env1 A1 => if C ∈ cts then .nx (((env1.set i (some (.exc C))).set j (some (.exc C))).set i none) A1 else .stuck
  | r => r
theorem z68 : sTryK cts i j b env A = tryK_ cts i j (b env A) := rfl
theorem z50 : tryK_ cts i j (.nx env A) = .nx env A := rfl
theorem z58 : tryK_ cts i j (.rt d A) = .rt d A := rfl
theorem z23 (h : C ∈ cts) : tryK_ cts i j (.exc C env A) = .nx (((env.set i (some (.exc C))).set j (some (.exc C))).set i none) A := if_pos h
def tryO_ (cts : List String) (s : S) (r : RS) : RS := match r with
  | .exc C env1 A1 => if C ∈ cts then s env1 A1 else .stuck
  | r => r
theorem z71 : sTryO cts b s env A = tryO_ cts s (b env A) := rfl
theorem z48 : tryO_ cts s (.nx env A) = .nx env A := rfl
theorem z34 : tryO_ cts s (.rt d A) = .rt d A := rfl
theorem z21 (h : C ∈ cts) : tryO_ cts s (.exc C env A) = s env A := if_pos h
def cn_ (A : Hs) (c : Bool) : Option (List Bool) → RE D
  | some bs => .ok (.int (bs.count c : Nat)) A
  | none => .stuck
theorem z2e {c : Bool} : oCount (.ref i) [.bl c] A = cn_ A c ((sq_ A[i]?).bind boolsOf) := by
  unfold oCount; rw [z7k]; cases (sq_ A[i]?).bind boolsOf <;> rfl
theorem zbp {c : Bool} {bs : List Bool} : cn_ A c (some bs) = .ok (.int (bs.count c : Nat)) A := rfl
theorem z5w : boolsOf [] = some [] := rfl
theorem z4i {c : Bool} {r : List D} : boolsOf (.bl c :: r) = (boolsOf r).map (c :: ·) := rfl
theorem z5b {c : Bool} : List.count c [] = 0 := rfl
theorem z2i {c b : Bool} {r : List Bool} : List.count c (b :: r) = List.count c r + (if b = c then 1 else 0) := by
  rw [List.count_cons]; cases b <;> cases c <;> rfl
end
/-! a, b, c = x, y, z -/
def sPar3 (i j l : Nat) (as : As) : S := fun env A => match as env A with
  | .ok [x, y, z] A1 => .nx (((env.set i (some x)).set j (some y)).set l (some z)) A1
  | .exc C A1 => .exc C env A1
  | _ => .stuck
section
variable {K : PySem.W.Frag} {ca : CaT} {W : WX} {i j l : Nat} {as : As} {ts : TA} {A : Hs} {env : Sl} {x y z : D}
def par3_ (env : Sl) (i j l : Nat) (r : RE (List D)) : RS := match r with
  | .ok [x, y, z] A1 => .nx (((env.set i (some x)).set j (some y)).set l (some z)) A1
  | .exc C A1 => .exc C env A1
  | _ => .stuck
theorem z5g : sPar3 i j l as env A = par3_ env i j l (as env A) := rfl
theorem z4v : par3_ env i j l (.ok [x, y, z] A) = .nx (((env.set i (some x)).set j (some y)).set l (some z)) A := rfl
end
/-! tuple(range(n)) -/
def eTupRg (a : E) : E := fun env A => (a env A).bind fun x A1 => match x with
  | .int n => if 0 ≤ n ∧ n ≤ 16777216 then .ok (.tup (rgL 0 1 n.toNat)) A1 else .stuck
  | _ => .stuck
section
variable {K : PySem.W.Frag} {ca : CaT} {W : WX} {te : TE} {a : E} {A : Hs} {n : Int}
def tupRg_ (A : Hs) : D → RE D
  | .int n => if 0 ≤ n ∧ n ≤ 16777216 then .ok (.tup (rgL 0 1 n.toNat)) A else .stuck
  | _ => .stuck
theorem z40 {env : Sl} : eTupRg a env A = (a env A).bind fun x A1 => tupRg_ A1 x := by
  unfold eTupRg tupRg_; rfl
theorem z3b (h : 0 ≤ n ∧ n ≤ 16777216) : tupRg_ A (.int n) = .ok (.tup (rgL 0 1 n.toNat)) A := if_pos h
end
/-- a def that has a second name -/
theorem Dx.of2 {P : Program} {w : World} {K : PySem.W.Frag} {mg : Str → Option Value} {base : Heap} {k : Nat} {x x0 qn : Str} {st : Stmt} {fa : Addr} {fd : FuncData} {ps : List Str} {sp : Sp} (h : FnOk P w K mg base (L2.CX P w) k fa fd ps sp) (F : Fun K x0 qn st fa fd) (hm : mg x = some (.ref fa)) (b : Binds K fd ps []) : DL.Dx P w K mg base k x sp := ⟨fa, fd, ps, h, hm, F.kp, b⟩
end SM

/-! ## defs with defaults -/
namespace L2
open PySem PySem.Spec PyProof.Rows
section
variable {X : Cx} {CX : CXT} {k : Nat} {f C : Addr} {fd : FuncData} {ps : List Str} {sp : Sp} {E : St → XK} {x : Str} {p pos : Pos} {e : Expr} {es : List Expr} {t : TA} {ds : List Value} {dvs : List V}
end
end L2
namespace DL
open PySem L2
/-- a class whose __init__ is called with its defaults dvs -/
structure MxD (P : Program) (w : World) (K : PySem.W.Frag) (mg : Str → Option Value) (base : Heap) (k : Nat) (x : Str) (C : Addr) (sp : Sp) (dvs : List V) : Prop where
  ex : ∃ (f : Addr) (fd : FuncData) (ps : List Str) (ds : List Value), Mk K C f ∧ FnOk P w K mg base (L2.CX P w) k f fd ps sp ∧ mg x = some (.ref C) ∧ Binds K fd ps ds ∧ Vals dvs ds
theorem MxD.of {P : Program} {w : World} {K : PySem.W.Frag} {mg : Str → Option Value} {base : Heap} {k : Nat} {x : Str} {C fa : Addr} {fd : FuncData} {ps : List Str} {sp : Sp} {dvs : List V} (M : Mk K C fa) (h : FnOk P w K mg base (L2.CX P w) k fa fd ps sp) (hm : mg x = some (.ref C)) (b : ∃ ds, Vals dvs ds ∧ Binds K fd ps ds) : MxD P w K mg base k x C sp dvs := by
  obtain ⟨ds, v, b⟩ := b
  exact ⟨fa, fd, ps, ds, M, h, hm, b, v⟩
theorem MxD.full {P : Program} {w : World} {K : PySem.W.Frag} {mg : Str → Option Value} {base : Heap} {k : Nat} {x : Str} {C : Addr} {sp : Sp} (h : MxD P w K mg base k x C sp []) : Mx P w K mg base k x C sp := by
  obtain ⟨fa, fd, ps, ds, M, h, hm, b, v⟩ := h.ex
  cases v
  exact ⟨fa, fd, ps, M, h, hm, b⟩
section
variable {X : Cx} {W : WX} {k j : Nat} {x : Str} {C : Addr} {sp : Sp} {p pos : Pos} {e : Expr} {es : List Expr} {t : TA} {dvs : List V}
end
end DL
namespace SM
open PySem L2
open DL (Ex ExK)
section
variable {K : PySem.W.Frag} {ca : CaT} {W : WX} {as : As} {ts : TA} {C : String} {f : Fn} {A : Hs} {env : Sl} {l : List D}
def eMakeD (C : String) (f : Fn) (dd : List D) (as : As) : E := fun env A => (as env A).bind fun ds A1 => make C f (ds ++ dd) A1
def eMakeD0 (C : String) (f : Fn) (dd : List D) (as : As) : E := fun env A => (as env A).bind fun ds A1 => (make C f (ds ++ dd) A1).noX
theorem z4p {dd : List D} : eMakeD C f dd as env A = (as env A).bind fun ds A1 => make C f (ds ++ dd) A1 := rfl
theorem z2f {dd : List D} : eMakeD0 C f dd as env A = (as env A).bind fun ds A1 => (make C f (ds ++ dd) A1).noX := rfl
end
section
variable {P : Program} {w : World} {K : PySem.W.Frag} {mg : Str → Option Value} {base : Heap} {ca : CaT} {x qn : Str} {st : Stmt} {fa : Addr} {fd : FuncData} {N ps : List Str} {k : Nat}
end
end SM

/-! ## t[::e] of a tuple, e = 1 or -1 -/
namespace SM
open PySem L2 PySem.Spec PyProof.Rows
section
variable {prog : Program} {w : World} {A : Around} {E : Value → Shared → Prop} {s : Shared}
end
section
open DL (Ex ExK)
variable {K : PySem.W.Frag} {ca : CaT} {W : WX} {ta tb : TE} {a b : E}
def oStT (x y : D) (A : Hs) : RE D := match seqT x with
  | some l => match y with
    | .int i => if i = 1 then .ok x A else if i = -1 then .ok (.tup l.reverse) A else .stuck
    | _ => .stuck
  | _ => .stuck
theorem z6t {l : List D} {A : Hs} : oStT (.tup l) (.int 1) A = .ok (.tup l) A := rfl
theorem z7h {l : List D} {A : Hs} : oStT (.tup l) (.int (-1)) A = .ok (.tup l.reverse) A := rfl
end
end SM

/-! ## text * 0, text * 1 -/
namespace L2
open PySem PySem.Spec PyProof.Rows
end L2
namespace SM
open PySem L2
open DL (Ex ExK)
section
variable {K : PySem.W.Frag} {ca : CaT}
def oMulS (x y : D) (A : Hs) : RE D := match x, y with
  | .str s, .int i => if i = 1 then .ok (.str s) A else if i = 0 then .ok (.str Str.empty) A else .stuck
  | _, _ => .stuck
end
theorem z3v {A : Hs} {s : String} : oMulS (dS s) (.int 1) A = .ok (dS s) A := rfl
theorem z59 {A : Hs} {s : String} : oMulS (dS s) (.int 0) A = .ok (dS "") A := rfl
section
variable {A : Hs} {env : Sl} {o a e : E} {i : Nat} {x y z d : D} {kv : List (D × D)} {t lk : Bool}
theorem z5k : eGet2 o a e env A = (o env A).bind fun x A1 => if isDic A1 x = true then (a env A1).bind fun y A2 => (e env A2).bind fun z A3 => ofO A3 (getD A3 x y z) else .stuck := rfl
def gD_ (y z : D) : Option O → Option D
  | some (.dic t _ kv) => if keyOk t y = true then some ((kget kv y).getD z) else none
  | _ => none
theorem z5e : getD A (.ref i) y z = gD_ y z A[i]? := by
  unfold getD gD_ dicAt
  rcases h : A[i]? with _ | u
  · simp only [h]
  · cases u <;> simp only [h]
theorem zaw : gD_ y z (some (.dic t lk kv)) = if keyOk t y = true then some ((kget kv y).getD z) else none := rfl
theorem za6 {α : Type} {d : α} : ofO A (some d) = .ok d A := rfl
end
def oL_ (r : RE D) (x : D) (A : Hs) : Option (List D) → RE D
  | some l => if l.isEmpty = true then r else .ok x A
  | none => .stuck
theorem z9j {A : Hs} {env : Sl} {a b : E} : eOrL a b env A = (a env A).bind fun x A1 => oL_ (b env A1) x A1 (seqL A1 x) := by
  unfold eOrL
  cases a env A with
  | ok x A1 =>
    simp only [RE.bind]
    cases seqL A1 x <;> rfl
  | exc _ _ => rfl
  | stuck => rfl
theorem zb4 {r : RE D} {x : D} {A : Hs} {l : List D} : oL_ r x A (some l) = if l.isEmpty = true then r else .ok x A := rfl
/-! len(set(xs)) of ints -/
def eLenSet (a : E) : E := fun env A => (a env A).bind fun x A1 => match (seqL A1 x).bind intsOf with
  | some ns => if ns.length ≤ 4000 then .ok (.int (L2.unlike ns : Nat)) A1 else .stuck
  | none => .stuck
def lnS_ (A : Hs) : Option (List Int) → RE D
  | some ns => if ns.length ≤ 4000 then .ok (.int (L2.unlike ns : Nat)) A else .stuck
  | none => .stuck
theorem z24 {a : E} {env : Sl} {A : Hs} : eLenSet a env A = (a env A).bind fun x A1 => lnS_ A1 ((seqL A1 x).bind intsOf) := by
  unfold eLenSet lnS_; rfl
theorem z8a {A : Hs} {ns : List Int} (h : ns.length ≤ 4000) : lnS_ A (some ns) = .ok (.int (L2.unlike ns : Nat)) A := if_pos h
/-- a def that is called by no run -/
theorem Dx.never {P : Program} {w : World} {K : PySem.W.Frag} {mg : Str → Option Value} {base : Heap} {ca : CaT} {k : Nat} {x x0 qn : Str} {st : Stmt} {fa : Addr} {fd : FuncData} {ps : List Str} (F : Fun K x0 qn st fa fd) (hm : mg x = some (.ref fa)) (b : Binds K fd ps []) : DL.Dx P w K mg base k x (SpF K ca fun _ _ => .stuck) := by
  refine ⟨fa, fd, ps, ⟨fun vs H Q E h => ?_, fun A outer s H args us vs Q E _ _ _ _ h => ?_⟩, hm, F.kp, b⟩
  · obtain ⟨_, _, _, _, _, _, p⟩ := h; exact p.elim
  · obtain ⟨_, _, _, _, _, _, p⟩ := h; exact p.elim
end SM

/-! ## z.join(xs).replace(y, w), int(text) -/
namespace DL
open PySem L2 PySem.Spec PyProof.Rows
section
variable {X : Cx} {e : Expr} {te : TE} {x y z : Str} {j k i : Nat} {c c0 c1 ap1 p1 apos pos : Pos}
end
def rIntT : List V → Hp → VK → Prop := fun xs H Q => rInt1 xs H Q ∨ ∃ a n, xs = [.str a] ∧ PySem.intText? a = some n ∧ a.length ≤ 640 ∧ Q (.int n) H
def rStrI : List V → Hp → VK → Prop := fun xs H Q => ∃ i, xs = [V.int i] ∧ i.natAbs.log2 < 1920 ∧ Q (.str (toString i)) H
end DL
namespace SM
open PySem L2
open DL (rJoin rIntT rStrI)
section
variable {K : PySem.W.Frag} {ca : CaT} {F H H1 : Hp} {m : List Addr} {A A1 : Hs} {σ : L2.St} {env : Sl} {W : WX} {Q : VK}
variable {to : TE} {o : E}
def rpl (y z : Str) (A : Hs) : D → RE D
  | .str x => if x.length + (x.length + 1) * z.length ≤ 16777216 then .ok (.str (Txt.replace x y z)) A else .stuck
  | _ => .stuck
def eRepl (y z : Str) (o : E) : E := fun env A => (o env A).bind fun x A1 => rpl y z A1 x
def oIntT (x : D) (A : Hs) : RE D := match x with
  | .int i => .ok (.int i) A
  | .bl b => .ok (.int (if b then 1 else 0)) A
  | .str a => if a.length ≤ 640 then match PySem.intText? a with
    | some n => .ok (.int n) A
    | none => .stuck
    else .stuck
  | _ => .stuck
/-- not by rfl alone: else the kernel may unfold the whole def that is called -/
theorem z8n {α β : Type} {a : α} {A : Hs} {f : α → Hs → RE β} : (RE.ok a A).bind f = f a A := id rfl
theorem zb3 {e : Sl} {A : Hs} {f : S} : seqR (.nx e A) f = f e A := id rfl
theorem z9c {a b : S} : sSeq a b env A = seqR (a env A) b := id rfl
theorem z7f {y z : Str} : eRepl y z o env A = (o env A).bind fun x A1 => rpl y z A1 x := rfl
theorem z35 {p : Int} : oIntT (.int p) A = .ok (.int p) A := rfl
theorem z3s {b : Bool} : oIntT (.bl b) A = .ok (.int (if b then 1 else 0)) A := rfl
end
/-- a module's own tuple of ints -/
def KTpl (K : PySem.W.Frag) (a : Addr) (ns : List Int) : Prop := ∃ (o : Obj) (its : Array Value) (n : Nat), K.lookup a = some o ∧ o.cls = .type "tuple" ∧ o.data = .seq its n ∧ its.size ≤ sizeLine ∧ Vals (ns.map V.int) its.toList
theorem repL_ints {K : PySem.W.Frag} {ca : CaT} {F : Hp} {m : List Addr} : ∀ ns : List Int, RepL K ca F m (ns.map V.int) (ns.map D.int)
  | [] => .nil
  | n :: ns => .cons (.int n) (repL_ints ns)
theorem KTpl.rep {K : PySem.W.Frag} {ca : CaT} {a : Addr} {ns : List Int} (h : KTpl K a ns) (F : Hp) (m : List Addr) : Rep K ca F m (.ref a) (.wt (ns.map D.int)) := .wt (.inr h) (repL_ints ns)
end SM

/-! ## dicts walked: locked while a loop runs; their keys, values, pairs; dict(x); sorted(ints) -/
namespace SM
open PySem L2
open DL (Ex ExK)
section
variable {K : PySem.W.Frag} {ca : CaT} {F F1 F2 H H1 H2 : Hp} {m m1 m2 : List Addr} {A A1 A2 : Hs} {σ : L2.St} {env : Sl} {W : WX} {i : Nat} {u : HO} {t : Bool} {l : List (D × D)}
/-- a dict's object is there -/
theorem Rl.dic (R : Rl K ca F m A H) (h : A[i]? = some (.dic t false l)) : ∃ a u, m[i]? = some a ∧ H a = some u ∧ Mut (some u) ∧ (∀ od w, u ≠ .frz od w) ∧ ∀ od, ORep K ca F m (upd H a (.frz od u)) a (.dic t true l) := by
  have l0 : i < m.length := by rw [R.len]; exact (List.getElem?_eq_some_iff.mp h).1
  have ha : m[i]? = some m[i] := List.getElem?_eq_getElem l0
  have r := R.ob i _ m[i] h ha
  cases t with
  | false =>
    obtain ⟨kvs, h1, h2⟩ := r
    exact ⟨m[i], .dK kvs, ha, h1, trivial, fun od w z => (by cases z), fun od => ⟨kvs, ⟨od, upd_same⟩, h2⟩⟩
  | true =>
    obtain ⟨kvs, h1, h2⟩ := r
    exact ⟨m[i], .dT kvs, ha, h1, trivial, fun od w z => (by cases z), fun od => ⟨kvs, ⟨od, upd_same⟩, h2⟩⟩
end
def pkR : RE D → Option Nat
  | .ok (.ref i) _ => some i
  | _ => none
/-- unlocked again -/
def un1 {β : Type} (k : Hs → β) (s : β) (A : Hs) (i : Nat) : Option O → β
  | some (.dic t true l) => k (A.set i (.dic t false l))
  | _ => s
def ulR (i : Nat) : RS → RS
  | .nx e A => un1 (fun B => .nx e B) .stuck A i A[i]?
  | .bk e A => un1 (fun B => .bk e B) .stuck A i A[i]?
  | .ct e A => un1 (fun B => .ct e B) .stuck A i A[i]?
  | .rt d A => un1 (fun B => .rt d B) .stuck A i A[i]?
  | .exc C e A => .exc C e A
  | .stuck => .stuck
def lk2 (f : S) (env : Sl) (A : Hs) (i : Nat) : Option O → RS
  | some (.dic t false l) => ulR i (f env (A.set i (.dic t true l)))
  | _ => .stuck
def lk1 (f : S) (env : Sl) (A : Hs) : Option Nat → RS
  | some i => lk2 f env A i A[i]?
  | none => .stuck
def sLk (x : E) (f : S) : S := fun env A => lk1 f env A (pkR (x env A))
def ulE (i : Nat) : RE D → RE D
  | .ok d A => un1 (fun B => .ok d B) .stuck A i A[i]?
  | .exc C A => .exc C A
  | .stuck => .stuck
def lkE2 (f : E) (env : Sl) (A : Hs) (i : Nat) : Option O → RE D
  | some (.dic t false l) => ulE i (f env (A.set i (.dic t true l)))
  | _ => .stuck
def lkE1 (f : E) (env : Sl) (A : Hs) : Option Nat → RE D
  | some i => lkE2 f env A i A[i]?
  | none => .stuck
def eLk (x : E) (f : E) : E := fun env A => lkE1 f env A (pkR (x env A))
section
variable {K : PySem.W.Frag} {ca : CaT} {W : WX}
end
/-! what is walked -/
def wd_ (A : Hs) (i : Nat) (f : Bool → List (D × D) → Option (List D)) : Option O → Option Wk
  | some (.dic t true l) => (f t l).map fun ds => ⟨ds, fun A' => A'[i]? = some (.dic t true l)⟩
  | _ => none
def wdA (f : Bool → List (D × D) → Option (List D)) (A : Hs) : D → Option Wk
  | .ref i => wd_ A i f A[i]?
  | _ => none
def wkK : Hs → D → Option Wk := wdA fun _ l => some (l.map Prod.fst)
def wkV : Hs → D → Option Wk := wdA fun t l => if t = false then some (l.map Prod.snd) else none
def wkI : Hs → D → Option Wk := wdA fun t l => if t = false then some (l.map fun p => .tup [p.1, p.2]) else none
section
variable {K : PySem.W.Frag} {ca : CaT} {F F1 F2 H H1 H2 : Hp} {m m1 m2 : List Addr} {A A1 A2 : Hs} {W : WX} {te : TE} {a : E}
theorem KvR.at_ {κ δ : Type} {kd : κ → δ} : ∀ {kvs : List (κ × V)} {l : List (δ × D)}, KvR K ca F m kd kvs l → ∀ {i : Nat} {k : κ} {v : V}, kvs[i]? = some (k, v) → ∃ d, l[i]? = some (kd k, d) ∧ Rep K ca F m v d
  | _, _, .nil, i, k, v, h => by simp at h
  | _, _, .cons r t, i, k, v, h => by
    cases i with
    | zero =>
      rw [List.getElem?_cons_zero] at h ⊢
      cases h
      exact ⟨_, rfl, r⟩
    | succ i =>
      rw [List.getElem?_cons_succ] at h ⊢
      exact KvR.at_ t h
end
/-! dict(xs), sorted(xs) -/
theorem call_sortedA {X : Cx} {K : PySem.W.Frag} (e : X.K = K := by rfl) : CallR X (.builtin "sorted") (rSortedI K) := by subst e; exact cr_sortedI
def pairsD : List D → Option (List (D × D))
  | [] => some []
  | .tup [k, v] :: r => if (keyK k).isSome = true then (pairsD r).map ((k, v) :: ·) else none
  | _ => none
def oDict (x : D) (A : Hs) : RE D := match x with
  | .ref i => match A[i]? with
    | some (.dic false _ l) => alloc A (.dic false false l)
    | some (.lst l) => match pairsD l with
      | some ps => alloc A (.dic false false (kmerge [] ps))
      | none => .stuck
    | _ => .stuck
  | _ => .stuck
def srt (l : List Int) : List Int := l.mergeSort fun a b => decide (a ≤ b)
def oSorted (x : D) (A : Hs) : RE D := match (seqL A x).bind intsOf with
  | some ns => alloc A (.lst ((srt ns).map D.int))
  | none => .stuck
section
variable {K : PySem.W.Frag} {ca : CaT} {F F1 F2 H H1 H2 : Hp} {m m1 m2 : List Addr} {A A1 A2 : Hs} {W : WX} {te : TE} {a : E}
theorem srt_eq {ns ns' : List Int} (h : ns'.Perm ns) (p : ns'.Pairwise (· ≤ ·)) : ns' = srt ns := by
  have h1 : (srt ns).Perm ns := List.mergeSort_perm _ _
  have h2 : (srt ns).Pairwise fun a b => decide (a ≤ b) = true := List.pairwise_mergeSort (fun a b c => by simp only [decide_eq_true_eq]; omega) (fun a b => by simp only [Bool.or_eq_true, decide_eq_true_eq]; omega) ns
  refine List.Perm.eq_of_pairwise (le := fun a b : Int => a ≤ b) (fun a b _ _ h1 h2 => by omega) p (h2.imp fun h => of_decide_eq_true h) (h.trans h1.symm)
theorem cs_sorted : CbS K ca (rSortedI K) (c1 oSorted) := cs_1 fun F m A H x dx W σ Q R rx p => by
  unfold oSorted at p
  split at p
  · rename_i bs hb
    obtain ⟨l, h1, h2⟩ := Option.bind_eq_some_iff.mp hb
    obtain ⟨a, vs, e, h3, h4⟩ := seqL_at R rx h1
    have e2 := intsOf_eq h2
    subst e2
    have e3 := h4.ints
    subst e3 e
    refine ⟨a, bs, rfl, h3, fun ns' q pm pw hq => ?_⟩
    rw [srt_eq pm pw]
    exact po_alloc (o := .lst ((srt bs).map D.int)) R hq ⟨_, upd_same, repL_ints _⟩ p
  · exact p.elim
end
/-! for plain proofs -/
section
variable {A B : Hs} {i : Nat} {e env : Sl} {d : D} {t : Bool} {l : List (D × D)} {f : S} {x g : E} {β : Type} {k : Hs → β} {s : β} {C : String}
theorem zc5 : sLk x f env A = lk1 f env A (pkR (x env A)) := rfl
theorem zag : eLk x g env A = lkE1 g env A (pkR (x env A)) := rfl
theorem z7e : pkR (.ok (.ref i) A) = some i := rfl
theorem z88 : lk1 f env A (some i) = lk2 f env A i A[i]? := rfl
theorem z73 : lkE1 g env A (some i) = lkE2 g env A i A[i]? := rfl
theorem z9l : lk2 f env A i (some (.dic t false l)) = ulR i (f env (A.set i (.dic t true l))) := id rfl
theorem z60 : lkE2 g env A i (some (.dic t false l)) = ulE i (g env (A.set i (.dic t true l))) := id rfl
theorem z7g : ulR i (.nx e A) = un1 (fun B => .nx e B) .stuck A i A[i]? := rfl
theorem z6l : ulR i (.bk e A) = un1 (fun B => .bk e B) .stuck A i A[i]? := rfl
theorem z6g : ulR i (.ct e A) = un1 (fun B => .ct e B) .stuck A i A[i]? := rfl
theorem z7n : ulR i (.rt d A) = un1 (fun B => .rt d B) .stuck A i A[i]? := rfl
theorem z3l : ulR i (.exc C e A) = .exc C e A := rfl
theorem z6k : ulE i (.ok d A) = un1 (fun B => .ok d B) .stuck A i A[i]? := rfl
theorem z3w : ulE i (.exc C A) = .exc C A := rfl
theorem za4 : un1 k s A i (some (.dic t true l)) = k (A.set i (.dic t false l)) := rfl
theorem z8k : wkK A (.ref i) = wd_ A i (fun _ l => some (l.map Prod.fst)) A[i]? := rfl
theorem z9a : wkV A (.ref i) = wd_ A i (fun t l => if t = false then some (l.map Prod.snd) else none) A[i]? := rfl
theorem za7 : wkI A (.ref i) = wd_ A i (fun t l => if t = false then some (l.map fun p => .tup [p.1, p.2]) else none) A[i]? := rfl
theorem zav {f : Bool → List (D × D) → Option (List D)} : wd_ A i f (some (.dic t true l)) = (f t l).map fun ds => ⟨ds, fun A' => A'[i]? = some (.dic t true l)⟩ := rfl
def od_ (A : Hs) : Option O → RE D
  | some (.dic false _ l) => .ok (.ref A.length) (A ++ [.dic false false l])
  | some (.lst l) => match pairsD l with
    | some ps => .ok (.ref A.length) (A ++ [.dic false false (kmerge [] ps)])
    | none => .stuck
  | _ => .stuck
theorem z4o : oDict (.ref i) A = od_ A A[i]? := by
  unfold oDict od_
  cases h : A[i]? with
  | none => simp only [h]
  | some o =>
    simp only [h]
    cases o with
    | dic t lk l => cases t <;> rfl
    | lst l => cases pairsD l <;> rfl
    | obj C fs => rfl
    | nd _ => rfl
theorem zbd {lk : Bool} : od_ A (some (.dic false lk l)) = .ok (.ref A.length) (A ++ [.dic false false l]) := rfl
def os_ (A : Hs) : Option (List Int) → RE D
  | some ns => .ok (.ref A.length) (A ++ [.lst ((srt ns).map D.int)])
  | none => .stuck
theorem z15 : oSorted x_ A = os_ A ((seqL A x_).bind intsOf) := by
  unfold oSorted os_
  cases (seqL A x_).bind intsOf <;> rfl
theorem zbc {ns : List Int} : os_ A (some ns) = .ok (.ref A.length) (A ++ [.lst ((srt ns).map D.int)]) := rfl
end
end SM

/-! ## a lambda handed to a def that tries it: told = work(), an error is kept by a name -/
namespace SM
open PySem PySem.Spec PyProof.Rows L2
open DL (Ex ExK)
/-- what a def's end hands back where nothing may be let out -/
def retS : RS → RE D
  | .nx _ A => .ok .non A
  | .rt d A => .ok d A
  | _ => .stuck
/-- slots: 0 what is tried, 1 what it told, 2 what was caught, 3 the handler's name -/
def trK (cts : List String) (frest : S) : RE D → RE D
  | .ok d A1 => retS (frest [none, some d, some .non, none] A1)
  | .exc C A1 => if C ∈ cts then retS (frest [none, none, some (.exc C), none] A1) else .stuck
  | .stuck => .stuck
def eTried (cts : List String) (frest : S) (th : E) : E := fun env A => trK cts frest (th env A)
section
variable {K : PySem.W.Frag} {ca : CaT} {F F1 F2 H H1 H2 : Hp} {m m1 m2 : List Addr} {A A1 A2 : Hs} {σ : L2.St} {env : Sl} {W : WX}
theorem Po.any {α β : Type} {Rr : Hp → List Addr → β → α → Prop} {Q : β → Hp → Prop} {r : RE α} {σ' : L2.St} {W' : WX} (h : Po K ca Rr F m H W σ Q r) (hx : ∀ C A, r ≠ .exc C A) : Po K ca Rr F m H W' σ' Q r := by
  cases r with
  | ok a A' => exact h
  | exc C A' => exact absurd rfl (hx C A')
  | stuck => exact h
end
section
variable {P : Program} {w : World} {K : PySem.W.Frag} {mg : Str → Option Value} {base : Heap} {k : Nat} {x qn : Str} {st : Stmt} {fa : Addr} {fd : FuncData} {N ps : List Str} {ca : CaT}
end
/-! ### the end -/
/-- no table is seen -/
def noT (H : Hp) : Hp := fun b => match H b with
  | some (.tbl _) => none
  | o => o
theorem noT_some {H : Hp} {b : Addr} {u : HO} (h : noT H b = some u) : H b = some u ∧ ∀ ps, u ≠ .tbl ps := by
  unfold noT at h
  split at h
  · cases h
  · rename_i n
    exact ⟨h, fun ps z => n ps (by rw [h, z])⟩
theorem noT_of {H : Hp} {b : Addr} {u : HO} (h : H b = some u) (n : ∀ ps, u ≠ .tbl ps) : noT H b = some u := by
  unfold noT
  split
  · rename_i ps z; rw [h] at z; exact absurd (Option.some.inj z) (n ps)
  · exact h
theorem SqL.noT {K : PySem.W.Frag} {H : Hp} {a : Addr} {xs : List V} (h : SqL K H a xs) : SqL K (noT H) a xs := by
  rcases h with (h | ⟨o, h⟩) | h
  · exact .inl (.inl (noT_of h (by intro _ z; cases z)))
  · exact .inl (.inr ⟨o, noT_of h (by intro _ z; cases z)⟩)
  · exact .inr h
theorem Rl.start {K : PySem.W.Frag} {ca : CaT} {H : Hp} (h : ∀ p ∈ ca.T, H p.1 = some (.tbl #[])) : Rl K ca (SM.noT H) [] [] H :=
  ⟨fun a o h => (noT_some h).1, rfl, List.nodup_nil, fun a h => by simp at h, fun i o a h => by simp at h, fun p hp => LamX.TabS.nil (h p hp), fun a ps h => (noT_some h).2 ps rfl⟩
end SM
/-! ### the script and a list -/
namespace L2
open PySem PySem.Spec PyProof.Rows
end L2
namespace SM
open PySem PySem.Spec PyProof.Rows L2
open DL (Ex ExK)
def oAddS (x y : D) (A : Hs) : RE D := match x, y with
  | .scr l, .ref j => match A[j]? with
    | some (.lst k) => if l.length + k.length ≤ sizeLine then alloc A (.lst (l ++ k)) else .stuck
    | _ => .stuck
  | _, _ => .stuck
theorem z6s {A : Hs} {l k : List D} {j : Nat} (h : A[j]? = some (.lst k)) (hl : l.length + k.length ≤ 16000000) : oAddS (.scr l) (.ref j) A = .ok (.ref A.length) (A ++ [.lst (l ++ k)]) := by
  unfold oAddS; simp only [h]; rw [if_pos (z0i hl)]; rfl
/-! ### equations for the plain proofs -/
theorem z46 {cts : List String} {fr : S} {th : E} {env : Sl} {A : Hs} : eTried cts fr th env A = trK cts fr (th env A) := id rfl
theorem z5f {cts : List String} {fr : S} {d : D} {A1 : Hs} : trK cts fr (.ok d A1) = retS (fr [none, some d, some .non, none] A1) := id rfl
theorem z33 {cts : List String} {fr : S} {C : String} {A1 : Hs} (h : C ∈ cts) : trK cts fr (.exc C A1) = retS (fr [none, none, some (.exc C), none] A1) := by
  show (if C ∈ cts then _ else _) = _
  rw [if_pos h]
theorem z3o {d : D} {A : Hs} : retS (.rt d A) = .ok d A := id rfl
theorem z4u {env : Sl} {A : Hs} : retS (.nx env A) = .ok .non A := id rfl
end SM

/-! ## min, max, sorted of data (ints, truths, texts, tuples of these); min, max with a default; max of a dict's keys -/
namespace L2
open PySem PySem.Spec PyProof.Rows PySem.W
theorem Vals.at_ {xs : List V} {us : List Value} (r : Vals xs us) : ∀ {i : Nat} {u : Value}, us[i]? = some u → ∃ x, xs[i]? = some x ∧ RelV x u := by
  induction r with
  | nil => intro i u h; simp at h
  | cons h t ih =>
    intro i u e
    cases i with
    | zero => rw [List.getElem?_cons_zero] at e ⊢; cases e; exact ⟨_, rfl, h⟩
    | succ i => rw [List.getElem?_cons_succ] at e ⊢; exact ih e
end L2
namespace SM
open PySem L2
open DL (Ex ExK)
def mx : List Int → Int
  | [] => 0
  | [a] => a
  | a :: r => if mx r ≤ a then a else mx r
def oMaxKDf (x z : D) (A : Hs) : RE D := match x with
  | .ref i => match A[i]? with
    | some (.dic false false l) => match intsOf (l.map Prod.fst) with
      | some [] => .ok z A
      | some ns => .ok (.int (mx ns)) A
      | none => .stuck
    | _ => .stuck
  | _ => .stuck
/-- a built-in called with one argument and one keyword -/
def eCK (f : D → D → Hs → RE D) (a b : E) : E := fun env A => (a env A).bind fun x A1 => (b env A1).bind fun y A2 => f x y A2
section
variable {K : PySem.W.Frag} {ca : CaT} {F F1 F2 H H1 H2 : Hp} {m m1 m2 : List Addr} {A A1 A2 : Hs} {W : WX} {ta tb : TE} {a b : E}
theorem allSome_len {α : Type} : ∀ {l : List (Option α)} {r : List α}, allSome l = some r → l.length = r.length
  | [], r, h => by cases h; rfl
  | some a :: l, r, h => by
    unfold allSome at h
    obtain ⟨r', h1, rfl⟩ := Option.map_eq_some_iff.mp h
    rw [List.length_cons, List.length_cons, allSome_len h1]
  | none :: _, _, h => by cases h
end
end SM

/-! ## dicts with tuple keys: values(), items(), pop; setdefault; what no run reaches -/
namespace L2
open PySem PySem.Spec PyProof.Rows
section
variable {X : Cx} {pins : List (Addr × Obj)} {σ : St} {H : Hp} {s : Shared} {d : Addr} {o : Obj}
end
section
variable {P : Program} {w : World} {K : PySem.W.Frag} {tg : Expr} {d : Addr} {o : Obj} {es : Array DictEntry} {ep : Nat}
end
section
variable {X : Cx} {tg e : Expr} {td : TE} {apos cpos : Pos}
end
end L2
namespace DT
open PySem PySem.W PySem.Calls PyProof.Rows PyProof.V PySem.Spec
section
variable {K : Type} [DecidableEq K] {prog : Program} {w : World} {knd : HeapKind prog w K} {A : Around} {E : Value → Shared → Prop} {s : Shared}
end
end DT
namespace L2
open PySem PySem.Spec PyProof.Rows
end L2
namespace SM
open PySem L2
open DL (Ex ExK)
section
variable {K : PySem.W.Frag} {ca : CaT} {F F1 F2 H H1 H2 : Hp} {m m1 m2 : List Addr} {A A1 A2 : Hs} {σ : L2.St} {env : Sl} {W : WX} {Q : VK}
variable {to ti ta tb tc te tz : TE} {a b c e : E} {i : Nat} {d : D} {ts : TA} {as : As} {x y : V} {dx dy : D}
/-! walks -/
def wkVT : Hs → D → Option Wk := wdA fun t l => if t = true then some (l.map Prod.snd) else none
def wkIT : Hs → D → Option Wk := wdA fun t l => if t = true then some (l.map fun p => .tup [p.1, p.2]) else none
/-! pop -/
def oDPopT (x y : D) (A : Hs) : RE D := match x with
  | .ref i => match A[i]? with
    | some (.dic true false l) => if keyOk true y = true then match kget l y with
      | some d => .ok d (A.set i (.dic true false (kdel l y)))
      | none => .stuck
      else .stuck
    | _ => .stuck
  | _ => .stuck
def oDPopT2 (x y z : D) (A : Hs) : RE D := match x with
  | .ref i => match A[i]? with
    | some (.dic true false l) => if keyOk true y = true then match kget l y with
      | some d => .ok d (A.set i (.dic true false (kdel l y)))
      | none => .ok z A
      else .stuck
    | _ => .stuck
  | _ => .stuck
def isDicU (A : Hs) : D → Bool
  | .ref i => match A[i]? with
    | some (.dic _ false _) => true
    | _ => false
  | _ => false
def eBD (o : D → List D → Hs → RE D) (a : E) (as : As) : E := fun env A => (a env A).bind fun x A1 => if isDicU A1 x = true then (as env A1).bind fun ds A2 => o x ds A2 else .stuck
def d1_ (f : D → D → Hs → RE D) (x : D) : List D → Hs → RE D
  | [y], A => f x y A
  | _, _ => .stuck
def d2_ (f : D → D → D → Hs → RE D) (x : D) : List D → Hs → RE D
  | [y, z], A => f x y z A
  | _, _ => .stuck
/-! setdefault -/
def oDSetd (x y z : D) (A : Hs) : RE D := match x with
  | .ref i => match A[i]? with
    | some (.dic false false l) => if (keyK y).isSome = true ∧ l.length < sizeLine then match kget l y with
      | some d => .ok d A
      | none => .ok z (A.set i (.dic false false (kput l y z)))
      else .stuck
    | _ => .stuck
  | _ => .stuck
def eDSetd (a b c : E) : E := fun env A => (a env A).bind fun x A1 => if isDic A1 x then (b env A1).bind fun y A2 => (c env A2).bind fun z A3 => oDSetd x y z A3 else .stuck
/-! list(d) -/
def oListT (x : D) (A : Hs) : RE D := match x with
  | .ref i => match A[i]? with
    | some (.dic true _ l) => alloc A (.lst (l.map Prod.fst))
    | _ => .stuck
  | _ => .stuck
end
/-! for plain proofs -/
section
variable {A : Hs} {i : Nat} {env : Sl} {x y z d : D} {t lk gt : Bool} {l : List (D × D)} {a b c : E} {as : As} {ds : List D} {o : D → List D → Hs → RE D} {o2 : D → D → Hs → RE D}
theorem z7o : wkVT A (.ref i) = wd_ A i (fun t l => if t = true then some (l.map Prod.snd) else none) A[i]? := rfl
theorem z69 : wkIT A (.ref i) = wd_ A i (fun t l => if t = true then some (l.map fun p => .tup [p.1, p.2]) else none) A[i]? := rfl
theorem zap : eBD o a as env A = (a env A).bind fun x A1 => if isDicU A1 x = true then (as env A1).bind fun ds A2 => o x ds A2 else .stuck := rfl
def idu_ : Option O → Bool
  | some (.dic _ false _) => true
  | _ => false
theorem z32 : isDicU A (.ref i) = idu_ A[i]? := by
  unfold isDicU idu_
  cases h : A[i]? with
  | none => simp only [h]
  | some u =>
    simp only [h] <;> (cases u with
    | dic t lk l => cases lk <;> rfl
    | _ => rfl)
theorem z81 : idu_ (some (.dic t false l)) = true := rfl
theorem zb8 {f : D → D → Hs → RE D} : d1_ f x [y] A = f x y A := rfl
theorem zas {f : D → D → D → Hs → RE D} : d2_ f x [y, z] A = f x y z A := rfl
def dpT_ (A : Hs) (i : Nat) (y : D) : Option O → RE D
  | some (.dic true false l) => if keyOk true y = true then match kget l y with
    | some d => .ok d (A.set i (.dic true false (kdel l y)))
    | none => .stuck
    else .stuck
  | _ => .stuck
theorem z22 : oDPopT (.ref i) y A = dpT_ A i y A[i]? := by
  unfold oDPopT dpT_
  cases h : A[i]? with
  | none => simp only [h]
  | some u =>
    simp only [h] <;> (cases u with
    | dic t lk l => cases t <;> cases lk <;> rfl
    | _ => rfl)
theorem z9p {d : D} (hk : keyOk true y = true) (h : kget l y = some d) : dpT_ A i y (some (.dic true false l)) = .ok d (A.set i (.dic true false (kdel l y))) := by
  unfold dpT_
  simp only
  rw [if_pos hk, h]
def dpT2_ (A : Hs) (i : Nat) (y z : D) : Option O → RE D
  | some (.dic true false l) => if keyOk true y = true then match kget l y with
    | some d => .ok d (A.set i (.dic true false (kdel l y)))
    | none => .ok z A
    else .stuck
  | _ => .stuck
theorem z10 : oDPopT2 (.ref i) y z A = dpT2_ A i y z A[i]? := by
  unfold oDPopT2 dpT2_
  cases h : A[i]? with
  | none => simp only [h]
  | some u =>
    simp only [h] <;> (cases u with
    | dic t lk l => cases t <;> cases lk <;> rfl
    | _ => rfl)
theorem z5j {d : D} (hk : keyOk true y = true) (h : kget l y = some d) : dpT2_ A i y z (some (.dic true false l)) = .ok d (A.set i (.dic true false (kdel l y))) := by
  unfold dpT2_
  simp only
  rw [if_pos hk, h]
theorem z5i (hk : keyOk true y = true) (h : kget l y = none) : dpT2_ A i y z (some (.dic true false l)) = .ok z A := by
  unfold dpT2_
  simp only
  rw [if_pos hk, h]
theorem z4e : eDSetd a b c env A = (a env A).bind fun x A1 => if isDic A1 x = true then (b env A1).bind fun y A2 => (c env A2).bind fun z A3 => oDSetd x y z A3 else .stuck := rfl
def dsd_ (A : Hs) (i : Nat) (y z : D) : Option O → RE D
  | some (.dic false false l) => if (keyK y).isSome = true ∧ l.length < sizeLine then match kget l y with
    | some d => .ok d A
    | none => .ok z (A.set i (.dic false false (kput l y z)))
    else .stuck
  | _ => .stuck
theorem z2q : oDSetd (.ref i) y z A = dsd_ A i y z A[i]? := by
  unfold oDSetd dsd_
  cases h : A[i]? with
  | none => simp only [h]
  | some u =>
    simp only [h] <;> (cases u with
    | dic t lk l => cases t <;> cases lk <;> rfl
    | _ => rfl)
theorem z89 {d : D} (hk : (keyK y).isSome = true) (hl : l.length < 16000000) (h : kget l y = some d) : dsd_ A i y z (some (.dic false false l)) = .ok d A := by
  unfold dsd_
  simp only
  rw [if_pos ⟨hk, Nat.lt_of_lt_of_le hl (by rw [sizeLine_eq]; decide)⟩, h]
theorem z7t (hk : (keyK y).isSome = true) (hl : l.length < 16000000) (h : kget l y = none) : dsd_ A i y z (some (.dic false false l)) = .ok z (A.set i (.dic false false (kput l y z))) := by
  unfold dsd_
  simp only
  rw [if_pos ⟨hk, Nat.lt_of_lt_of_le hl (by rw [sizeLine_eq]; decide)⟩, h]
theorem zan : eCK o2 a b env A = (a env A).bind fun x A1 => (b env A1).bind fun y A2 => o2 x y A2 := rfl
def mxd_ (z : D) (A : Hs) : Option O → RE D
  | some (.dic false false l) => match intsOf (l.map Prod.fst) with
    | some [] => .ok z A
    | some ns => .ok (.int (mx ns)) A
    | none => .stuck
  | _ => .stuck
theorem z1p : oMaxKDf (.ref i) z A = mxd_ z A A[i]? := by
  unfold oMaxKDf mxd_
  cases h : A[i]? with
  | none => simp only [h]
  | some u =>
    simp only [h] <;> (cases u with
    | dic t lk l => cases t <;> cases lk <;> first | rfl | (simp only; cases intsOf (l.map Prod.fst) with | none => rfl | some ns => cases ns <;> rfl)
    | _ => rfl)
theorem z92 : mxd_ z A (some (.dic false false [])) = .ok z A := rfl
theorem z8t {ns : List Int} (h : l.map Prod.fst = ns.map D.int) (hn : ns ≠ []) : mxd_ z A (some (.dic false false l)) = .ok (.int (mx ns)) A := by
  unfold mxd_
  simp only
  rw [h, z0k]
  cases ns with
  | nil => exact absurd rfl hn
  | cons n ns => rfl
def lT_ (A : Hs) : Option O → RE D
  | some (.dic true _ l) => .ok (.ref A.length) (A ++ [.lst (l.map Prod.fst)])
  | _ => .stuck
theorem z2j : oListT (.ref i) A = lT_ A A[i]? := by
  unfold oListT lT_
  cases h : A[i]? with
  | none => simp only [h]
  | some u =>
    simp only [h] <;> (cases u with
    | dic t lk l => cases t <;> cases lk <;> rfl
    | _ => rfl)
theorem zbi : lT_ A (some (.dic true lk l)) = .ok (.ref A.length) (A ++ [.lst (l.map Prod.fst)]) := rfl
end
end SM

/-! ## dicts with tuple keys: setdefault -/
namespace L2
open PySem PySem.Spec PySem.Calls PyProof.Rows PyProof.V
end L2
namespace SM
open PySem L2
open DL (Ex ExK)
section
variable {K : PySem.W.Frag} {ca : CaT} {F : Hp} {H : Hp} {m : List Addr} {A : Hs} {σ : L2.St} {env : Sl} {W : WX} {Q : VK} {i : Nat} {d x y z : D} {l : List (D × D)}
def oDSetdT (x y z : D) (A : Hs) : RE D := match x with
  | .ref i => match A[i]? with
    | some (.dic true false l) => if keyOk true y = true ∧ l.length < sizeLine then match kget l y with
      | some d => .ok d A
      | none => .ok z (A.set i (.dic true false (kput l y z)))
      else .stuck
    | _ => .stuck
  | _ => .stuck
def dst_ (A : Hs) (i : Nat) (y z : D) : Option O → RE D
  | some (.dic true false l) => if keyOk true y = true ∧ l.length < sizeLine then match kget l y with
    | some d => .ok d A
    | none => .ok z (A.set i (.dic true false (kput l y z)))
    else .stuck
  | _ => .stuck
theorem z1c : oDSetdT (.ref i) y z A = dst_ A i y z A[i]? := by
  unfold oDSetdT dst_
  cases h : A[i]? with
  | none => simp only [h]
  | some u =>
    simp only [h] <;> (cases u with
    | dic t lk l => cases t <;> cases lk <;> rfl
    | _ => rfl)
theorem z9d {d : D} (hk : keyOk true y = true) (hl : l.length < 16000000) (h : kget l y = some d) : dst_ A i y z (some (.dic true false l)) = .ok d A := by
  unfold dst_
  simp only
  rw [if_pos ⟨hk, Nat.lt_of_lt_of_le hl (by rw [sizeLine_eq]; decide)⟩, h]
theorem z9m (hk : keyOk true y = true) (hl : l.length < 16000000) (h : kget l y = none) : dst_ A i y z (some (.dic true false l)) = .ok z (A.set i (.dic true false (kput l y z))) := by
  unfold dst_
  simp only
  rw [if_pos ⟨hk, Nat.lt_of_lt_of_le hl (by rw [sizeLine_eq]; decide)⟩, h]
end
end SM

/-! ## d.update(pairs) -/
namespace L2
open PySem PySem.Spec PySem.Calls PyProof.Rows PyProof.V
end L2
namespace SM
open PySem L2
open DL (Ex ExK)
section
variable {K : PySem.W.Frag} {ca : CaT} {F : Hp} {H : Hp} {m : List Addr} {A : Hs} {σ : L2.St} {env : Sl} {W : WX} {Q : VK} {i j : Nat} {d x y z : D} {l : List (D × D)}
def oUpdK (x y : D) (A : Hs) : RE D := match x, y with
  | .ref i, .ref j => match A[i]?, A[j]? with
    | some (.dic false false l), some (.lst r) => match pairsD r with
      | some qs => if l.length + qs.length ≤ sizeLine then .ok .non (A.set i (.dic false false (kmerge l qs))) else .stuck
      | none => .stuck
    | _, _ => .stuck
  | _, _ => .stuck
def up_ (A : Hs) (i : Nat) : Option O → Option O → RE D
  | some (.dic false false l), some (.lst r) => match pairsD r with
    | some qs => if l.length + qs.length ≤ sizeLine then .ok .non (A.set i (.dic false false (kmerge l qs))) else .stuck
    | none => .stuck
  | _, _ => .stuck
theorem z4x : oUpdK (.ref i) (.ref j) A = up_ A i A[i]? A[j]? := by
  unfold oUpdK up_
  cases h : A[i]? with
  | none => simp only [h]
  | some u =>
    cases k : A[j]? with
    | none => simp only [h, k]
    | some w => simp only [h, k] <;> first | done | (cases u with
      | dic t lk l => cases t <;> cases lk <;> cases w <;> rfl
      | _ => cases w <;> rfl)
theorem zc3 {r : List D} {qs : List (D × D)} (h : pairsD r = some qs) (hl : l.length + qs.length ≤ 16000000) : up_ A i (some (.dic false false l)) (some (.lst r)) = .ok .non (A.set i (.dic false false (kmerge l qs))) := by
  unfold up_
  simp only
  rw [h]
  simp only
  rw [if_pos (Nat.le_trans hl (by rw [sizeLine_eq]; decide))]
end
end SM

/-! ## walks within walks of one dict -/
namespace SM
open PySem L2
open DL (Ex ExK)
def isLk (A : Hs) : Option Nat → Bool
  | some i => match A[i]? with
    | some (.dic _ true _) => true
    | _ => false
  | none => false
def sLkN (x : E) (f : S) : S := fun env A => if isLk A (pkR (x env A)) = true then f env A else sLk x f env A
def eLkN (x : E) (f : E) : E := fun env A => if isLk A (pkR (x env A)) = true then f env A else eLk x f env A
section
variable {K : PySem.W.Frag} {ca : CaT} {W : WX}
end
section
variable {x : E} {f : S} {g : E} {env : Sl} {A : Hs} {i : Nat} {t b : Bool} {l : List (D × D)}
def lkb_ : Option O → Bool
  | some (.dic _ true _) => true
  | _ => false
theorem z7d : isLk A (some i) = lkb_ A[i]? := by
  unfold isLk lkb_
  cases h : A[i]? with
  | none => simp only [h]
  | some u => simp only [h] <;> first | done | (cases u with
    | dic t lk l => cases lk <;> rfl
    | _ => rfl)
theorem z7x : lkb_ (some (.dic t b l)) = b := by cases b <;> rfl
theorem z9k : sLkN x f env A = if isLk A (pkR (x env A)) = true then f env A else sLk x f env A := rfl
theorem za0 : eLkN x g env A = if isLk A (pkR (x env A)) = true then g env A else eLk x g env A := rfl
end
end SM

namespace SM
open PySem L2
open DL (Ex ExK)
def oLenL (x : D) (A : Hs) : RE D := match x with
  | .ref i => match A[i]? with
    | some (.dic false true l) => .ok (.int (l.length : Int)) A
    | _ => oLen x A
  | _ => oLen x A
section
variable {K : PySem.W.Frag} {ca : CaT} {A : Hs} {i : Nat} {l : List (D × D)}
def lnL_ (A : Hs) (i : Nat) : Option O → RE D
  | some (.dic false true l) => .ok (.int (l.length : Int)) A
  | _ => oLen (.ref i) A
theorem z3y : oLenL (.ref i) A = lnL_ A i A[i]? := rfl
theorem z9t : lnL_ A i (some (.dic false true l)) = .ok (.int (l.length : Int)) A := rfl
theorem z83 : lnL_ A i (some (.dic false false l)) = oLen (.ref i) A := rfl
theorem z9n {k : List D} : lnL_ A i (some (.lst k)) = oLen (.ref i) A := rfl
theorem z57 {k : List D} : oLenL (.tup k) A = oLen (.tup k) A := rfl
theorem z5a {k : List D} : oLenL (.scr k) A = oLen (.scr k) A := rfl
end
end SM

/-! ## dicts whose keys are nested tuples of ints (PND) -/
namespace SM
open PySem L2
open DL (Ex ExK)
mutual
def nkD : D → Option NestedKey
  | .int i => some (.num i)
  | .non => some .none
  | .tup l => (nkDs l).map .tup
  | _ => none
def nkDs : List D → Option (List NestedKey)
  | [] => some []
  | d :: r => match nkD d, nkDs r with
    | some k, some ks => some (k :: ks)
    | _, _ => none
end
/-- a tuple as a key -/
def keyN (d : D) : Option NestedKey := match d with
  | .tup l => match nkDs l with
    | some ks => if NestedKey.depthAll ks ≤ 7 then some (.tup ks) else none
    | none => none
  | _ => none
def nAt (A : Hs) (x : D) : Option (List (NestedKey × D)) := match x with
  | .ref i => match A[i]? with
    | some (.nd l) => some l
    | _ => none
  | _ => none
def nget (l : List (NestedKey × D)) (k : NestedKey) : Option D := (l.find? fun e => decide (e.1 = k)).map (·.2)
def nput (l : List (NestedKey × D)) (k : NestedKey) (d : D) : List (NestedKey × D) :=
  if (nget l k).isSome then l.map fun x => if x.1 = k then (x.1, d) else x else l ++ [(k, d)]
def eNNew : E := fun _ A => alloc A (.nd [])
def oNIn (neg : Bool) (y x : D) (A : Hs) : RE D := match nAt A x, keyN y with
  | some l, some k => .ok (.bl (if neg then !(nget l k).isSome else (nget l k).isSome)) A
  | _, _ => .stuck
def oNGet (x y : D) (A : Hs) : RE D := match nAt A x, keyN y with
  | some l, some k => match nget l k with
    | some d => .ok d A
    | none => .stuck
  | _, _ => .stuck
def oNGetD (x y z : D) (A : Hs) : RE D := match nAt A x, keyN y with
  | some l, some k => .ok ((nget l k).getD z) A
  | _, _ => .stuck
def eNGet1 (o i : E) : E := fun env A => (o env A).bind fun x A1 => if (nAt A1 x).isSome then (i env A1).bind fun y A2 => oNGetD x y .non A2 else .stuck
def eNGet2 (o i e : E) : E := fun env A => (o env A).bind fun x A1 => if (nAt A1 x).isSome then (i env A1).bind fun y A2 => (e env A2).bind fun z A3 => oNGetD x y z A3 else .stuck
def nPut (A : Hs) (x y v : D) : Option Hs := match x, nAt A x, keyN y with
  | .ref i, some l, some k => if l.length < sizeLine then some (A.set i (.nd (nput l k v))) else none
  | _, _, _ => none
def sNPutF (o i a : E) : S := fun env A => ofE env (a env A) fun v A1 => ofE env (o env A1) fun x A2 => ofE env (i env A2) fun y A3 => ofH env (nPut A3 x y v)
section
variable {K : PySem.W.Frag} {ca : CaT} {F F1 F2 H H1 H2 : Hp} {m m1 m2 : List Addr} {A A1 A2 : Hs} {σ : L2.St} {env : Sl} {W : WX} {Q : VK}
variable {ti to ta tz : TE} {o a b e : E} {i : Nat} {x y v : V} {dx dy d : D} {l : List (NestedKey × D)} {k : NestedKey} {kvs : List (NestedKey × Addr × V)}
theorem nAt_of (h : nAt A dx = some l) : ∃ i, dx = .ref i ∧ A[i]? = some (.nd l) := by
  unfold nAt at h
  cases dx with
  | ref i =>
    simp only at h
    split at h
    · rename_i q; cases h; exact ⟨i, rfl, q⟩
    · cases h
  | _ => cases h
theorem nd_at (R : Rl K ca F m A H) (rx : Rep K ca F m x dx) (h : nAt A dx = some l) : ∃ i a kvs, dx = .ref i ∧ x = .ref a ∧ m[i]? = some a ∧ H a = some (NdO a kvs) ∧ NdOk F a kvs ∧ NdR K ca F m kvs l := by
  obtain ⟨i, rfl, hA⟩ := nAt_of h
  obtain ⟨a, e, ha, kvs, h1, h2, h3⟩ := R.at hA rx
  exact ⟨i, a, kvs, rfl, e, ha, h1, h2, h3⟩
mutual
theorem nk_rep : ∀ {y : V} {d : D} {k : NestedKey}, Rep K ca F m y d → nkD d = some k → NKey F y k
  | _, .int i, k, r, h => by cases r; simp only [nkD, Option.some.injEq] at h; subst h; exact .int i
  | _, .non, k, r, h => by cases r; simp only [nkD, Option.some.injEq] at h; subst h; exact .non
  | _, .tup l, k, r, h => by
    cases r with
    | tup s rs =>
      simp only [nkD, Option.map_eq_some_iff] at h
      obtain ⟨ks, h1, rfl⟩ := h
      exact .tup s (nks_rep rs h1)
  | _, .bl _, k, r, h => by simp [nkD] at h
  | _, .str _, k, r, h => by simp [nkD] at h
  | _, .ty _, k, r, h => by simp [nkD] at h
  | _, .wt _, k, r, h => by simp [nkD] at h
  | _, .scr _, k, r, h => by simp [nkD] at h
  | _, .ref _, k, r, h => by simp [nkD] at h
  | _, .nm _, k, r, h => by simp [nkD] at h
  | _, .exc _, k, r, h => by simp [nkD] at h
theorem nks_rep : ∀ {ys : List V} {ds : List D} {ks : List NestedKey}, RepL K ca F m ys ds → nkDs ds = some ks → NKeys F ys ks
  | _, [], ks, r, h => by cases r; simp only [nkDs, Option.some.injEq] at h; subst h; exact .nil
  | _, d :: ds, ks, r, h => by
    cases r with
    | cons r1 r2 =>
      simp only [nkDs] at h
      cases q1 : nkD d with
      | none => simp [q1] at h
      | some k1 =>
        cases q2 : nkDs ds with
        | none => simp [q1, q2] at h
        | some k2 =>
          simp only [q1, q2, Option.some.injEq] at h
          subst h
          exact .cons (nk_rep r1 q1) (nks_rep r2 q2)
end
theorem keyN_rep (r : Rep K ca F m y dy) (h : keyN dy = some k) : ∃ b, y = .ref b ∧ NKey F y k ∧ k.depth ≤ 8 := by
  unfold keyN at h
  cases dy with
  | tup l =>
    simp only at h
    split at h
    · rename_i ks hk
      split at h
      · rename_i hd
        cases h
        cases r with
        | tup s rs => exact ⟨_, rfl, .tup s (nks_rep rs hk), by rw [NestedKey.depth]; omega⟩
      · cases h
    · cases h
  | _ => cases h
theorem fh_tup (R : Rl K ca F m A H) : ∀ a xs, F a = some (.tup xs) → H a = some (.tup xs) := fun a xs h => R.fh a _ h
theorem nget_rep (r : NdR K ca F m kvs l) : (∀ d, nget l k = some d → ∃ v, ngetV kvs k = some v ∧ Rep K ca F m v d) ∧ (nget l k = none → ngetV kvs k = none) := by
  unfold nget ngetV
  induction r with
  | nil => exact ⟨fun d h => (by cases h), fun _ => rfl⟩
  | @cons k' q v d' r s h t ih =>
    rw [List.find?_cons, List.find?_cons]
    by_cases c : k' = k
    · rw [decide_eq_true c]
      exact ⟨fun d e => (by cases e; exact ⟨v, rfl, h⟩), fun e => (by cases e)⟩
    · rw [decide_eq_false c]; exact ih
theorem nget_isSome (r : NdR K ca F m kvs l) : (ngetV kvs k).isSome = (nget l k).isSome := by
  obtain ⟨h1, h2⟩ := nget_rep (k := k) r
  cases q : nget l k with
  | none => rw [h2 q]; rfl
  | some d => obtain ⟨v, e, _⟩ := h1 d q; rw [e]; rfl
theorem nmap_rep (rv : Rep K ca F m v d) : ∀ {kvs : List (NestedKey × Addr × V)} {l : List (NestedKey × D)}, NdR K ca F m kvs l → NdR K ca F m (kvs.map fun x => if x.1 = k then (x.1, x.2.1, v) else x) (l.map fun x => if x.1 = k then (x.1, d) else x)
  | _, _, .nil => .nil
  | _, _, .cons (k := k') h t => by
    rw [List.map_cons, List.map_cons]
    by_cases c : k' = k
    · simp only [c, if_true]; exact .cons rv (nmap_rep rv t)
    · simp only [c, if_false]; exact .cons h (nmap_rep rv t)
theorem nsnoc_rep {q : Addr} (rv : Rep K ca F m v d) : ∀ {kvs : List (NestedKey × Addr × V)} {l : List (NestedKey × D)}, NdR K ca F m kvs l → NdR K ca F m (kvs ++ [(k, q, v)]) (l ++ [(k, d)])
  | _, _, .nil => .cons rv .nil
  | _, _, .cons h t => .cons h (nsnoc_rep rv t)
theorem nput_rep {q : Addr} (r : NdR K ca F m kvs l) (rv : Rep K ca F m v d) : NdR K ca F m (nputV kvs k q v) (nput l k d) := by
  unfold nputV nput
  rw [nget_isSome r]
  split
  · exact nmap_rep rv r
  · exact nsnoc_rep rv r
theorem se_nnew : SimE K ca W tDNewN eNNew := fun F m A σ H env Q R S p q hq hs => po_alloc (o := .nd []) R hq ⟨[], upd_same, ⟨hs, Nat.zero_le _, List.nodup_nil, fun _ h => (by cases h)⟩, .nil⟩ p
theorem os_nin {neg : Bool} : OpS K ca (rNIn neg) (oNIn neg) := fun F m A H x y dx dy W σ Q R rx ry p => by
  unfold oNIn at p
  split at p
  · rename_i l k h1 h2
    obtain ⟨i, a, kvs, rfl, rfl, ha, z1, z2, z3⟩ := nd_at R ry h1
    obtain ⟨b, rfl, z4, z5⟩ := keyN_rep rx h2
    have q := po_ok R (.bl _) p
    rw [← nget_isSome z3] at q
    exact ⟨a, kvs, k, rfl, ⟨z1, z2.mono (fh_tup R)⟩, ⟨b, rfl, z4.mono (fh_tup R), z5⟩, q⟩
  · exact p.elim
theorem os_nget : OpS K ca rNGet oNGet := fun F m A H x y dx dy W σ Q R rx ry p => by
  unfold oNGet at p
  split at p
  · rename_i l k h1 h2
    split at p
    · rename_i d hg
      obtain ⟨i, a, kvs, rfl, rfl, ha, z1, z2, z3⟩ := nd_at R rx h1
      obtain ⟨b, rfl, z4, z5⟩ := keyN_rep ry h2
      obtain ⟨v, e, rv⟩ := (nget_rep z3).1 d hg
      exact ⟨a, kvs, k, v, rfl, ⟨z1, z2.mono (fh_tup R)⟩, ⟨b, rfl, z4.mono (fh_tup R), z5⟩, e, po_ok R rv p⟩
    · exact p.elim
  · exact p.elim
theorem ngetD_rep {z : V} {dz : D} (R : Rl K ca F m A H) (rx : Rep K ca F m x dx) (ry : Rep K ca F m y dy) (rz : Rep K ca F m z dz) (p : Po K ca (Rep K ca) F m H W σ Q (oNGetD dx dy dz A)) {a : Addr} (ex : x = .ref a) :
    ∃ kvs k, NdAt H a kvs ∧ NK H y k ∧ Q ((ngetV kvs k).getD z) H := by
  unfold oNGetD at p
  split at p
  · rename_i l k h1 h2
    obtain ⟨i, a', kvs, rfl, e, ha, z1, z2, z3⟩ := nd_at R rx h1
    rw [ex] at e; cases e
    obtain ⟨b, rfl, z4, z5⟩ := keyN_rep ry h2
    refine ⟨kvs, k, ⟨z1, z2.mono (fh_tup R)⟩, ⟨b, rfl, z4.mono (fh_tup R), z5⟩, ?_⟩
    cases q : nget l k with
    | none => rw [q] at p; rw [(nget_rep z3).2 q]; exact po_ok R rz p
    | some d =>
      obtain ⟨v, e, rv⟩ := (nget_rep z3).1 d q
      rw [q] at p; rw [e]; exact po_ok R rv p
  · exact p.elim
theorem se_nget1 (ho : SimE K ca W to o) (hi : SimE K ca W ti b) : SimE K ca W (tNGet1 to ti) (eNGet1 o b) := fun F m A σ H env Q R S p =>
  ho.bind R S p fun F1 m1 A1 H1 x dx R1 g1 S1 rx p1 => by
    cases q : nAt A1 dx with
    | none => simp only [q] at p1; exact p1.elim
    | some l =>
      simp only [q] at p1
      obtain ⟨i, a, kvs, e0, ex, ha, z1, z2, z3⟩ := nd_at R1 rx q
      exact ⟨a, kvs, ex, ⟨z1, z2.mono (fh_tup R1)⟩, hi.bind R1 S1 p1 fun F2 m2 A2 H2 y dy R2 g2 S2 ry p2 => ngetD_rep R2 (rx.mono g2.ff g2.mm) ry .non p2 ex⟩
theorem se_nget2 (ho : SimE K ca W to o) (hi : SimE K ca W ti b) (he : SimE K ca W tz e) : SimE K ca W (tNGet2 to ti tz) (eNGet2 o b e) := fun F m A σ H env Q R S p =>
  ho.bind R S p fun F1 m1 A1 H1 x dx R1 g1 S1 rx p1 => by
    cases q : nAt A1 dx with
    | none => simp only [q] at p1; exact p1.elim
    | some l =>
      simp only [q] at p1
      obtain ⟨i, a, kvs, e0, ex, ha, z1, z2, z3⟩ := nd_at R1 rx q
      exact ⟨a, kvs, ex, ⟨z1, z2.mono (fh_tup R1)⟩, hi.bind R1 S1 p1 fun F2 m2 A2 H2 y dy R2 g2 S2 ry p2 => he.bind R2 S2 p2 fun F3 m3 A3 H3 z dz R3 g3 S3 rz p3 =>
        ngetD_rep R3 (rx.mono (g2.trans g3).ff (g2.trans g3).mm) (ry.mono g3.ff g3.mm) rz p3 ex⟩
theorem ss_nput (ho : SimE K ca W to o) (hi : SimE K ca W ti b) (ha : SimE K ca W ta a) : SimS K ca W (L2.sNPut to ti ta) (sNPutF o b a) := fun F m A σ H env Dn R S p =>
  ofE_bind ha R S p fun F1 m1 A1 H1 v dv R1 g1 S1 rv p1 => ofE_bind ho R1 S1 p1 fun F2 m2 A2 H2 x dx R2 g2 S2 rx p2 => ofE_bind hi R2 S2 p2 fun F3 m3 A3 H3 y dy R3 g3 S3 ry p3 => by
    unfold nPut at p3
    split at p3
    · rename_i i l k q2 q1
      split at p3
      · rename_i hl
        obtain ⟨i', a, kvs, e0, ex, hm, z1, z2, z3⟩ := nd_at R3 (rx.mono g3.ff g3.mm) q1
        cases e0
        obtain ⟨b, rfl, z4, z5⟩ := keyN_rep ry q2
        have hl2 : kvs.length < sizeLine := by rw [z3.length]; exact hl
        have rv3 := rv.mono (g2.trans g3).ff (g2.trans g3).mm
        obtain ⟨R4, g4⟩ := R3.put (u := NdO a (nputV kvs k b v)) (o' := .nd (nput l k dv)) hm (fun od w z => by rw [z1] at z; unfold NdO at z; cases z) ⟨_, upd_same, nputV_ok z2 z4 z5 hl2, nput_rep z3 rv3⟩
        exact ⟨a, kvs, k, b, ex, rfl, ⟨z1, z2.mono (fh_tup R3)⟩, z4.mono (fh_tup R3), z5, hl2, p3 F3 m3 σ _ R4 g4 (S3.stp g4)⟩
      · exact p3.elim
    · exact p3.elim
end
/-! equations -/
section
variable {A : Hs} {env : Sl} {o a b e : E} {i : Nat} {d y z v : D} {l : List (NestedKey × D)} {k k' : NestedKey} {neg : Bool}
theorem z7j : eNNew env A = .ok (.ref A.length) (A ++ [.nd []]) := rfl
theorem z45 : eNGet1 o a env A = (o env A).bind fun x A1 => if (nAt A1 x).isSome then (a env A1).bind fun y A2 => oNGetD x y .non A2 else .stuck := rfl
theorem z43 : eNGet2 o a e env A = (o env A).bind fun x A1 => if (nAt A1 x).isSome then (a env A1).bind fun y A2 => (e env A2).bind fun z A3 => oNGetD x y z A3 else .stuck := rfl
theorem z41 : sNPutF o b a env A = ofE env (a env A) fun v A1 => ofE env (o env A1) fun x A2 => ofE env (b env A2) fun y A3 => ofH env (nPut A3 x y v) := rfl
def nd_ : Option O → Option (List (NestedKey × D))
  | some (.nd l) => some l
  | _ => none
theorem z8c : nAt A (.ref i) = nd_ A[i]? := by
  unfold nAt nd_
  simp only
theorem zae : nd_ (some (.nd l)) = some l := rfl
def ndi_ (A : Hs) (k : Option NestedKey) (neg : Bool) : Option (List (NestedKey × D)) → RE D
  | some l => match k with
    | some k => .ok (.bl (if neg then !(nget l k).isSome else (nget l k).isSome)) A
    | none => .stuck
  | none => .stuck
theorem z6w : oNIn neg y (.ref i) A = ndi_ A (keyN y) neg (nd_ A[i]?) := by
  unfold oNIn ndi_; rw [z8c]
  cases nd_ A[i]? <;> cases keyN y <;> rfl
theorem z7y : ndi_ A (some k) neg (some l) = .ok (.bl (if neg then !(nget l k).isSome else (nget l k).isSome)) A := rfl
def ndg_ (A : Hs) (k : Option NestedKey) : Option (List (NestedKey × D)) → RE D
  | some l => match k with
    | some k => at_ A (nget l k)
    | none => .stuck
  | none => .stuck
theorem z36 : oNGet (.ref i) y A = ndg_ A (keyN y) (nd_ A[i]?) := by
  unfold oNGet ndg_; rw [z8c]
  cases nd_ A[i]? with
  | none => cases keyN y <;> rfl
  | some l =>
    cases keyN y with
    | none => rfl
    | some k => simp only; unfold at_; cases nget l k <;> rfl
theorem z9v : ndg_ A (some k) (some l) = at_ A (nget l k) := rfl
def ndd_ (A : Hs) (k : Option NestedKey) (z : D) : Option (List (NestedKey × D)) → RE D
  | some l => match k with
    | some k => .ok ((nget l k).getD z) A
    | none => .stuck
  | none => .stuck
theorem z2v : oNGetD (.ref i) y z A = ndd_ A (keyN y) z (nd_ A[i]?) := by
  unfold oNGetD ndd_; rw [z8c]
  cases nd_ A[i]? <;> cases keyN y <;> rfl
theorem z8b : ndd_ A (some k) z (some l) = .ok ((nget l k).getD z) A := rfl
def ndp_ (A : Hs) (i : Nat) (k : Option NestedKey) (v : D) : Option (List (NestedKey × D)) → Option Hs
  | some l => match k with
    | some k => if l.length < sizeLine then some (A.set i (.nd (nput l k v))) else none
    | none => none
  | none => none
theorem z5v : nPut A (.ref i) y v = ndp_ A i (keyN y) v (nd_ A[i]?) := by
  unfold nPut ndp_; rw [z8c]
  cases nd_ A[i]? <;> cases keyN y <;> rfl
theorem z8y (h : l.length < 16000000) : ndp_ A i (some k) v (some l) = some (A.set i (.nd (nput l k v))) := if_pos (Nat.lt_of_lt_of_le h (by rw [sizeLine_eq]; decide))
theorem nget_put : nget (nput l k v) k' = if k = k' then some v else nget l k' := by
  unfold nput
  have mp : ∀ l : List (NestedKey × D), nget (l.map fun x => if x.1 = k then (x.1, v) else x) k' = if k = k' then (if (nget l k).isSome then some v else none) else nget l k' := by
    intro l
    unfold nget
    induction l with
    | nil => simp
    | cons p l ih =>
      obtain ⟨q, x⟩ := p
      rw [List.map_cons, List.find?_cons, List.find?_cons, List.find?_cons]
      by_cases c : q = k
      · subst c
        by_cases c2 : q = k'
        · subst c2; simp
        · simp only [if_true, if_neg c2, decide_eq_false c2]
          rw [ih, if_neg c2]
      · by_cases c2 : q = k'
        · subst c2
          simp [c, Ne.symm c]
        · simp only [if_neg c, decide_eq_false c2, decide_eq_false c]
          exact ih
  have ap : (nget l k).isSome = false → nget (l ++ [(k, v)]) k' = if k = k' then some v else nget l k' := by
    unfold nget
    induction l with
    | nil =>
      intro _
      by_cases c : k = k' <;> simp [c]
    | cons p l ih =>
      obtain ⟨q, x⟩ := p
      rw [List.find?_cons, List.cons_append, List.find?_cons, List.find?_cons]
      by_cases c : q = k
      · intro h; rw [decide_eq_true c] at h; cases h
      · rw [decide_eq_false c]
        intro h
        by_cases c2 : q = k'
        · subst c2; simp [Ne.symm c]
        · rw [decide_eq_false c2]; exact ih h
  cases q : (nget l k).isSome with
  | true => rw [if_pos rfl, mp, q, if_pos rfl]
  | false => rw [if_neg (by simp)]; exact ap q
theorem nput_len : (nput l k v).length ≤ l.length + 1 := by
  unfold nput
  split <;> simp
end
end SM
namespace DL
open PySem L2
section
variable {X : Cx} {k j : Nat} {x : Str} {C : Addr} {sp : Sp} {p pos : Pos}
/-- an object made without arguments -/
theorem pe_mx0N (c : Mx X.prog X.w X.K X.mg X.base k x C sp) (hr : Room j X.A) (hk : k + 1 ≤ j) (hg : Gl X x) (hdb : (x == ("__debug__" : Str)) = false := by decide) :
    PE X (.Call (.Name x p) [] [] pos) (tMake C sp [] E0 tNil) := by
  obtain ⟨f, fd, ps, M, F, hm, b⟩ := c.ex
  exact pe_make0 M F (hr.mono hk) hg hm b .nil passL hdb
end
end DL
namespace SM
open PySem L2
/-- a module's own tuple of texts -/
def KTplS (K : PySem.W.Frag) (a : Addr) (ns : List Str) : Prop := ∃ (o : Obj) (its : Array Value) (n : Nat), K.lookup a = some o ∧ o.cls = .type "tuple" ∧ o.data = .seq its n ∧ its.size ≤ sizeLine ∧ Vals (ns.map V.str) its.toList
theorem repL_strs {K : PySem.W.Frag} {ca : CaT} {F : Hp} {m : List Addr} : ∀ ns : List Str, RepL K ca F m (ns.map V.str) (ns.map D.str)
  | [] => .nil
  | n :: ns => .cons (.str n) (repL_strs ns)
theorem KTplS.rep {K : PySem.W.Frag} {ca : CaT} {a : Addr} {ns : List Str} {ts : List String} (e : ts.map fS = ns) (h : KTplS K a ns) (F : Hp) (m : List Addr) : Rep K ca F m (.ref a) (.wt (ts.map dS)) := by
  have : ts.map dS = ns.map D.str := by rw [← e, List.map_map]; rfl
  rw [this]
  exact .wt (.inr h) (repL_strs ns)
end SM

/-! ## dict(pairs) where the keys are nested tuples -/
namespace L2
open PySem PySem.Spec PySem.Calls PyProof.Rows PyProof.V
def nputAllV (acc kvs : List (NestedKey × Addr × V)) : List (NestedKey × Addr × V) := kvs.foldl (fun acc e => nputV acc e.1 e.2.1 e.2.2) acc
theorem nputV_len {acc : List (NestedKey × Addr × V)} {k : NestedKey} {q : Addr} {v : V} : (nputV acc k q v).length ≤ acc.length + 1 := by
  unfold nputV; split <;> simp
theorem nputAll_ok {H : Hp} {a : Addr} : ∀ {kvs acc : List (NestedKey × Addr × V)}, NdOk H a acc → (∀ e ∈ kvs, NKey H (.ref e.2.1) e.1 ∧ e.1.depth ≤ 8) → acc.length + kvs.length ≤ sizeLine → NdOk H a (nputAllV acc kvs)
  | [], _, h, _, _ => h
  | e :: r, acc, h, k, hl => by
    rw [List.length_cons] at hl
    have h1 := k e List.mem_cons_self
    have l1 := nputV_len (acc := acc) (k := e.1) (q := e.2.1) (v := e.2.2)
    exact nputAll_ok (kvs := r) (acc := nputV acc e.1 e.2.1 e.2.2) (nputV_ok h h1.1 h1.2 (by omega)) (fun x hx => k x (List.mem_cons_of_mem _ hx)) (by omega)
theorem nputAll_pair : ∀ {kvs : List (NestedKey × Addr × V)} {ps : List (NestedKey × Addr × Value)} {acc : List (NestedKey × Addr × V)} {xs : List (NestedKey × Addr × Value)}, Paired NdV kvs ps → Paired NdV acc xs → Paired NdV (nputAllV acc kvs) (storedAllH xs ps)
  | _, _, _, _, .nil, h => h
  | _, _, acc, xs, .cons (a := e) (b := x) (l₁ := l1) (l₂ := l2) p t, h => by
    have := nd_put (k := e.1) (q := e.2.1) h p.2.2
    have e1 := p.1
    have e2 := p.2.1
    show Paired NdV (nputAllV (nputV acc e.1 e.2.1 e.2.2) l1) (storedAllH (storedH xs x.1 x.2.1 x.2.2) l2)
    refine nputAll_pair t ?_
    rw [← e1, ← e2]
    exact this
theorem pairs_ofN {X : Cx} {pins : List (Addr × Obj)} {σ : St} {H : Hp} {s : Shared} (I : Inv X pins σ H s) : ∀ {ps : List Addr} {kvs : List (NestedKey × Addr × V)}, Paired (fun p (e : NestedKey × Addr × V) => SqT X.K H p [.ref e.2.1, e.2.2]) ps kvs →
    ∃ (prs : List (NestedKey × Addr × Value)), Paired NdV kvs prs ∧ prs.length = ps.length ∧ ∀ (j : Nat) (q : NestedKey × Addr × Value), prs[j]? = some q → ∃ b : Addr, ps[j]? = some b ∧ IsTup s.heap b #[.ref q.2.1, q.2.2]
  | _, _, .nil => ⟨[], .nil, rfl, fun j q e => by simp at e⟩
  | _, _, .cons (a := p) (b := kv) h t => by
    obtain ⟨prs, r, hl, hp⟩ := pairs_ofN I t
    obtain ⟨its, rv, ht, _⟩ := I.tuple h
    obtain ⟨u, y, ei, ru, ry⟩ := vals2 rv
    subst ei
    cases ru
    refine ⟨(kv.1, kv.2.1, y) :: prs, .cons ⟨rfl, rfl, ry⟩ r, by rw [List.length_cons, List.length_cons, hl], fun j q e => ?_⟩
    cases j with
    | zero =>
      have e' : (kv.1, kv.2.1, y) = q := Option.some.inj e
      subst e'
      exact ⟨p, rfl, ht⟩
    | succ j =>
      obtain ⟨b, e1, e2⟩ := hp j q (by simpa using e)
      exact ⟨b, by simpa using e1, e2⟩
def rDictN (K : PySem.W.Frag) : List V → Hp → VK → Prop := fun xs H Q => ∃ (a : Addr) (ps : List Addr) (kvs : List (NestedKey × Addr × V)), xs = [.ref a] ∧ SqL K H a (ps.map V.ref) ∧ Paired (fun p (e : NestedKey × Addr × V) => SqT K H p [.ref e.2.1, e.2.2]) ps kvs ∧
  (∀ e ∈ kvs, NKey H (.ref e.2.1) e.1 ∧ e.1.depth ≤ 8) ∧ ∀ p, H p = none → (p == sysModules) = false → Q (.ref p) (upd H p (NdO p (nputAllV [] kvs)))
theorem call_dictN {X : Cx} {K : PySem.W.Frag} (hu : X.A.units + 65 < cLine) (hcalm : X.calm = true) (e : X.K = K := by rfl) : CallR X (.type "dict") (rDictN K) := by
  subst e
  intro pins s σ H xs us Q I r h
  obtain ⟨a, ps, kvs, rfl, hq, hp, hk, q⟩ := h
  obtain ⟨u, eu, rx⟩ := vals1 r
  subst eu
  cases rx
  obtain ⟨its, rv, pl, hz⟩ := I.list hq
  have ei := refs_at rv
  subst ei
  rw [List.length_map] at hz
  obtain ⟨prs, rel, hl, hpr⟩ := pairs_ofN I hp
  obtain ⟨o, n, ho, hc, hd, hdat⟩ := pl
  have lk := Paired.length rel
  have hm : (s.heap.objs.size == sysModules) = false := beq_eq_false_iff_ne.mpr (Nat.ne_of_gt I.big)
  have items : PairItems s.heap ((ps.map Value.ref).toArray) (fun j => (ps[j]?).getD 0) (prs.map fun q => (Value.ref q.2.1, q.2.2)) := by
    refine ⟨by simp [hl], fun j k v hj => ?_⟩
    rw [List.getElem?_map] at hj
    obtain ⟨q', e0, e⟩ := Option.map_eq_some_iff.mp hj
    cases e
    obtain ⟨b', e1, o', h1, h2, n', h3⟩ := hpr j q' e0
    refine ⟨by simp [e1], .inl ?_⟩
    show s.heap.IsTuple ((ps[j]?).getD 0) #[_, _]
    rw [e1]
    exact ⟨o', h1, h2, n', h3⟩
  have hkey : ∀ x ∈ prs, NestedIs s.heap x.1 (.ref x.2.1) ∧ x.1.depth ≤ 8 := fun x hx => by
    obtain ⟨e, he, z1, z2, _⟩ := paired_mem rel x hx
    obtain ⟨k1, k2⟩ := hk e he
    rw [z1] at k1 k2
    rw [z2] at k1
    exact ⟨k1.is I.hok rfl, k2⟩
  refine call_dict_pairsH (knd := nestedKind X.prog X.w) (ps := prs) (PairArg.list a _ (fun j => (ps[j]?).getD 0) (prs.map fun q => (Value.ref q.2.1, q.2.2))) (I.ok.hd hcalm) (by show X.A.units + 1 + 1 + 8 < cLine; omega) ⟨⟨o, n, ho, hc, hd, hdat⟩, items⟩ ⟨by simp, fun i key v hr => ?_⟩ (fun h' hk' x hx => ?_) (by simp only [List.length_map]; omega) fun h' tk dd' hk' => ?_
  · have hr : (prs.map fun q => (Value.ref q.2.1, q.2.2))[i]? = some (key, v) := hr
    rw [List.getElem?_map] at hr
    obtain ⟨q', e0, e⟩ := Option.map_eq_some_iff.mp hr
    cases e
    exact ⟨q'.1, q'.2.1, e0, rfl⟩
  · obtain ⟨z1, z2⟩ := hkey x hx
    exact ⟨NestedIs.at (fun b o vs n hb _ => hk' b o (Nat.ne_of_lt (Heap.lt_size hb)) (by simp) hb) _ _ z1, z2⟩
  · obtain ⟨o', es, ep, g1, g2, g3, g4, _⟩ := dd'
    have pp : Paired NdV (nputAllV [] kvs) (storedAllH [] prs) := nputAll_pair rel .nil
    have okk : NdOk H s.heap.objs.size (nputAllV [] kvs) := nputAll_ok (acc := []) ⟨hm, Nat.zero_le _, List.nodup_nil, fun _ h => (by cases h)⟩ hk (by simp only [List.length_nil]; omega)
    have e4 : es.toList = (storedAllH [] prs).map ndE := by
      rw [g4]
      refine List.map_congr_left fun x hx => ?_
      obtain ⟨e, he, z1, z2, z3⟩ := paired_mem pp x hx
      have q := (okk.ks e he).1.hash (w := X.w)
      rw [z1] at q
      unfold ndE entryOfKey
      rw [← q]
      rfl
    exact ⟨.ref s.heap.objs.size, upd H s.heap.objs.size (NdO s.heap.objs.size (nputAllV [] kvs)), I.laid (t' := tk) (fun b u e => hk' b u (by simp) e) (Nat.le_refl _) (ndO_ok pp ⟨o', es, ep, g1, g2, g3, e4⟩), rfl, q _ (I.hok.fresh (Nat.le_refl _)) hm⟩
end L2
namespace SM
open PySem L2
open DL (Ex ExK)
def pairsN : List D → Option (List (NestedKey × D))
  | [] => some []
  | .tup [k, v] :: r => match keyN k, pairsN r with
    | some kk, some ps => some ((kk, v) :: ps)
    | _, _ => none
  | _ => none
def nputs (acc ps : List (NestedKey × D)) : List (NestedKey × D) := ps.foldl (fun acc e => nput acc e.1 e.2) acc
def oDictN (x : D) (A : Hs) : RE D := match x with
  | .ref i => match A[i]? with
    | some (.lst l) => match pairsN l with
      | some ps => if l.length ≤ sizeLine then alloc A (.nd (nputs [] ps)) else .stuck
      | none => .stuck
    | _ => .stuck
  | _ => .stuck
section
variable {K : PySem.W.Frag} {ca : CaT} {F F1 F2 H H1 H2 : Hp} {m m1 m2 : List Addr} {A A1 A2 : Hs} {W : WX} {te : TE} {a : E}
theorem pairsN_rep (R : Rl K ca F m A H) : ∀ {vs : List V} {l : List D} {qs : List (NestedKey × D)}, RepL K ca F m vs l → pairsN l = some qs → ∃ (ps : List Addr) (kvs : List (NestedKey × Addr × V)), vs = ps.map V.ref ∧ Paired (fun p (e : NestedKey × Addr × V) => SqT K H p [.ref e.2.1, e.2.2]) ps kvs ∧ (∀ e ∈ kvs, NKey F (.ref e.2.1) e.1 ∧ e.1.depth ≤ 8) ∧ NdR K ca F m kvs qs
  | _, _, _, .nil, h => by
    cases h
    exact ⟨[], [], rfl, .nil, fun _ h => (by cases h), .nil⟩
  | _, _, _, .cons (d := d) r rs, h => by
    unfold pairsN at h
    split at h
    · rename_i e; cases e
    · rename_i k v l e
      cases e
      split at h
      · rename_i kk ps' hk h1
        cases h
        obtain ⟨ps, kvs, e1, e2, e3, e4⟩ := pairsN_rep R rs h1
        cases r with
        | tup s rr =>
          cases rr with
          | cons r1 rr =>
            cases rr with
            | cons r2 rr =>
              cases rr
              obtain ⟨b, rfl, z1, z2⟩ := keyN_rep r1 hk
              refine ⟨_ :: ps, (kk, b, _) :: kvs, by rw [e1]; rfl, .cons (.inl (.inl (R.fh _ _ s))) e2, fun e he => ?_, .cons r2 e4⟩
              rcases List.mem_cons.mp he with q | q
              · subst q; exact ⟨z1, z2⟩
              · exact e3 e q
      · cases h
    · cases h
theorem nputs_rep : ∀ {kvs : List (NestedKey × Addr × V)} {qs : List (NestedKey × D)} {acc : List (NestedKey × Addr × V)} {l : List (NestedKey × D)}, NdR K ca F m kvs qs → NdR K ca F m acc l → NdR K ca F m (nputAllV acc kvs) (nputs l qs)
  | _, _, _, _, .nil, h => h
  | _, _, acc, l, .cons (k := k) (q := q) (v := v) (d := d) (r := r') (s := s') r t, h => by
    show NdR K ca F m (nputAllV (nputV acc k q v) r') (nputs (nput l k d) s')
    exact nputs_rep t (nput_rep h r)
theorem cs_dictN : CbS K ca (rDictN K) (c1 oDictN) := cs_1 fun F m A H x dx W σ Q R rx p => by
  unfold oDictN at p
  split at p
  · rename_i i
    split at p
    · rename_i l hA
      split at p
      · rename_i qs hq
        split at p
        · rename_i hl
          obtain ⟨ad, vs, e, ha, h1, h2⟩ := lst_at R rx hA
          subst e
          obtain ⟨ps, kvs, e1, e2, e3, e4⟩ := pairsN_rep R h2 hq
          subst e1
          have lk : kvs.length ≤ sizeLine := by
            have l1 := h2.length
            have l2 := Paired.length e2
            rw [List.length_map] at l1
            omega
          refine ⟨ad, ps, kvs, rfl, .inl (.inl h1), e2, fun e he => ⟨(e3 e he).1.mono (fh_tup R), (e3 e he).2⟩, fun q hq hs => ?_⟩
          refine po_alloc (o := .nd (nputs [] qs)) R hq ⟨_, upd_same, ?_, (nputs_rep e4 .nil).mono (Ex.refl _) ⟨_, rfl⟩⟩ p
          exact nputAll_ok (acc := []) ⟨hs, Nat.zero_le _, List.nodup_nil, fun _ h => (by cases h)⟩ e3 (by simp only [List.length_nil]; omega)
        · exact p.elim
      · exact p.elim
    · exact p.elim
  · exact p.elim
end
section
variable {A : Hs} {i : Nat} {l : List D} {ps : List (NestedKey × D)}
def odn_ (A : Hs) : Option O → RE D
  | some (.lst l) => match pairsN l with
    | some ps => if l.length ≤ sizeLine then .ok (.ref A.length) (A ++ [.nd (nputs [] ps)]) else .stuck
    | none => .stuck
  | _ => .stuck
theorem z2u : oDictN (.ref i) A = odn_ A A[i]? := by
  unfold oDictN odn_
  cases h : A[i]? with
  | none => simp only [h]
  | some o => cases o <;> simp only [h] <;> first | rfl | (rename_i l; cases pairsN l <;> rfl)
theorem odn_s (h : pairsN l = some ps) (hl : l.length ≤ 16000000) : odn_ A (some (.lst l)) = .ok (.ref A.length) (A ++ [.nd (nputs [] ps)]) := by
  unfold odn_
  simp only [h]
  rw [if_pos (Nat.le_trans hl (by rw [sizeLine_eq]; decide))]
theorem nputs_cons {l r : List (NestedKey × D)} {k : NestedKey} {d : D} : nputs l ((k, d) :: r) = nputs (nput l k d) r := rfl
end
end SM

/-! ## zip of two lists; <= of tuples of ints -/
namespace L2
open PySem PySem.Spec PyProof.Rows
end L2
namespace SM
open PySem L2
section
variable {K : PySem.W.Frag} {ca : CaT} {W : WX} {F H : Hp} {m : List Addr} {A B : Hs} {ts : TA} {as : As}
def leT (ns ms : List Int) : Bool := Ob.lexAt (fun j => decide (ns.getD j 0 = ms.getD j 0)) (fun j => decide (ns.getD j 0 ≤ ms.getD j 0)) (decide (ns.length ≤ ms.length)) 0 (min ns.length ms.length)
def oLeX (x y : D) (A : Hs) : RE D := match x, y with
  | .tup l, .tup m => match intsOf l, intsOf m with
    | some ns, some ms => .ok (.bl (leT ns ms)) A
    | _, _ => .stuck
  | .int i, .int j => .ok (.bl (decide (i ≤ j))) A
  | _, _ => .stuck
theorem z62 {a b c d : Int} : oLeX (.tup [.int a, .int b]) (.tup [.int c, .int d]) A = .ok (.bl (if a = c then decide (b ≤ d) else decide (a ≤ c))) A := by
  show RE.ok (D.bl (leT [a, b] [c, d])) A = _
  congr 2
  show (if decide (a = c) = true then (if decide (b = d) = true then decide (2 ≤ 2) else decide (b ≤ d)) else decide (a ≤ c)) = _
  by_cases h : a = c
  · rw [if_pos (decide_eq_true h), if_pos h]
    by_cases k : b = d
    · rw [if_pos (decide_eq_true k), k]; simp
    · rw [if_neg (by simpa using k)]
  · rw [if_neg (by simpa using h), if_neg h]
/-! zip -/
def zipL (l m : List D) : List D := (l.zip m).map fun p => .tup [p.1, p.2]
def wkZ (A : Hs) (ds : List D) : Option Wk := match ds with
  | [.ref i, .ref j] => match A[i]?, A[j]? with
    | some (.lst l), some (.lst k) => some ⟨zipL l k, fun A' => A'[i]? = some (.lst l) ∧ A'[j]? = some (.lst k)⟩
    | _, _ => none
  | _ => none
def wZ (as : As) : Sl → Hs → RE Wk := fun env A => (as env A).bind fun ds A1 => match wkZ A1 ds with
  | some k => .ok k A1
  | none => .stuck
theorem wZ_ {env : Sl} : wZ as env A = (as env A).bind fun x A1 => wk_ (wkZ A1 x) A1 := by unfold wZ wk_; rfl
def wz_ (A : Hs) (i j : Nat) : Option O → Option O → Option Wk
  | some (.lst l), some (.lst k) => some ⟨zipL l k, fun A' => A'[i]? = some (.lst l) ∧ A'[j]? = some (.lst k)⟩
  | _, _ => none
theorem zba {i j : Nat} {l k : List D} : wz_ A i j (some (.lst l)) (some (.lst k)) = some ⟨zipL l k, fun A' => A'[i]? = some (.lst l) ∧ A'[j]? = some (.lst k)⟩ := rfl
theorem z9i {i j : Nat} : wkZ A [.ref i, .ref j] = wz_ A i j A[i]? A[j]? := by
  unfold wkZ wz_
  simp only
end
end SM

/-! ## != of two dicts of dicts of ints that are alike -/
namespace PySem.W
open Lean Elab Tactic Meta PySem PySem.Calls PyProof.Rows PyProof.V PySem.Spec
section
variable {prog : Program} {w : World} {K : Type} [DecidableEq K] {knd : KeyKind prog w K} {A : Around} {E : Value → Shared → Prop} {s : Shared}
end
end PySem.W
namespace L2
open PySem PySem.Spec PyProof.Rows PySem.W
end L2
namespace SM
open PySem L2
section
variable {K : PySem.W.Frag} {ca : CaT} {W : WX} {F H : Hp} {m : List Addr} {A B : Hs}
end
end SM
/-! ## list(d), d a dict with int or text keys -/
namespace SM
open PySem L2
section
variable {K : PySem.W.Frag} {ca : CaT} {W : WX} {F H : Hp} {m : List Addr} {A B : Hs}
end
end SM

/-! ## sorted(d), d a dict with tuple keys, or with int keys -/
namespace L2
open PySem PySem.Spec PyProof.Rows PySem.W
end L2
namespace SM
open PySem L2
open DL (Ex ExK)
section
variable {K : PySem.W.Frag} {ca : CaT} {F F1 F2 H H1 H2 : Hp} {m m1 m2 : List Addr} {A A1 A2 : Hs} {W : WX}
end
end SM

/-! ## d.update(another dict) -/
namespace L2
open PySem PySem.Spec PySem.Calls PyProof.Rows PyProof.V
end L2
namespace SM
open PySem L2
open DL (Ex ExK)
section
variable {K : PySem.W.Frag} {ca : CaT} {F : Hp} {H : Hp} {m : List Addr} {A : Hs} {σ : L2.St} {env : Sl} {W : WX} {Q : VK} {i j : Nat} {d x y z : D} {l : List (D × D)}
def upD_ (A : Hs) (i j : Nat) : Option O → Option O → RE D
  | some (.dic false false l), some (.dic false false r) => if i ≠ j ∧ l.length + r.length ≤ sizeLine then .ok .non (A.set i (.dic false false (kmerge l r))) else .stuck
  | _, _ => .stuck
def oUpdD (x y : D) (A : Hs) : RE D := match x, y with
  | .ref i, .ref j => upD_ A i j A[i]? A[j]?
  | _, _ => .stuck
theorem z4m : oUpdD (.ref i) (.ref j) A = upD_ A i j A[i]? A[j]? := rfl
theorem z9z {r : List (D × D)} (h : i ≠ j) (hl : l.length + r.length ≤ 16000000) : upD_ A i j (some (.dic false false l)) (some (.dic false false r)) = .ok .non (A.set i (.dic false false (kmerge l r))) := by
  unfold upD_
  simp only
  rw [if_pos ⟨h, Nat.le_trans hl (by rw [sizeLine_eq]; decide)⟩]
end
end SM

/-! ## text.count(text) -/
namespace L2
open PySem PySem.Spec PySem.Calls PyProof.Rows PyProof.V
end L2
namespace SM
open PySem L2 DL
section
variable {K : PySem.W.Frag} {ca : CaT} {W : WX} {to te : TE} {a b : E}
end
end SM

/-! ## list(range(n)) -/
namespace SM
open PySem L2 DL
def eLstRg (a : E) : E := fun env A => (a env A).bind fun x A1 => match x with
  | .int n => if 0 ≤ n ∧ n ≤ 16777216 then .ok (.ref A1.length) (A1 ++ [.lst (rgL 0 1 n.toNat)]) else .stuck
  | _ => .stuck
section
variable {K : PySem.W.Frag} {ca : CaT} {W : WX} {te : TE} {a : E} {A : Hs} {n : Int}
def lstRg_ (A : Hs) : D → RE D
  | .int n => if 0 ≤ n ∧ n ≤ 16777216 then .ok (.ref A.length) (A ++ [.lst (rgL 0 1 n.toNat)]) else .stuck
  | _ => .stuck
theorem z4a {env : Sl} : eLstRg a env A = (a env A).bind fun x A1 => lstRg_ A1 x := by
  unfold eLstRg lstRg_; rfl
theorem z3k (h : 0 ≤ n ∧ n ≤ 16777216) : lstRg_ A (.int n) = .ok (.ref A.length) (A ++ [.lst (rgL 0 1 n.toNat)]) := if_pos h
end
end SM

/-! ## repr(data), where nothing is under way; defs that are called only there -/
namespace L2
open PySem PySem.Spec PyProof.Rows
def kyPy : Key → PyData
  | .inl i => .int i
  | .inr x => .str x
/-- none, truths, ints, texts -/
inductive Fl : V → PyData → Prop
  | non : Fl .non .none
  | bl (b : Bool) : Fl (.bl b) (.bool b)
  | int (i : Int) : Fl (.int i) (.int i)
  | str (x : Str) : Fl (.str x) (.str x)
inductive FlKv : List (Key × V) → List (PyData × PyData) → Prop
  | nil : FlKv [] []
  | cons {k : Key} {v : V} {d : PyData} {r : List (Key × V)} {s : List (PyData × PyData)} : Fl v d → FlKv r s → FlKv ((k, v) :: r) ((kyPy k, d) :: s)
/-! data without lists, flat dicts with int and text keys among them -/
mutual
inductive Dq (K : PySem.W.Frag) (H : Hp) : V → PyData → Prop
  | fl {v : V} {d : PyData} : Fl v d → Dq K H v d
  | tup {a : Addr} {xs : List V} {ds : List PyData} : SqT K H a xs → DqAll K H xs ds → Dq K H (.ref a) (.tuple ds)
  | dic {a : Addr} {kvs : List (Key × V)} {ps : List (PyData × PyData)} : Rd H a (.dK kvs) → FlKv kvs ps → Dq K H (.ref a) (.dict ps)
inductive DqAll (K : PySem.W.Frag) (H : Hp) : List V → List PyData → Prop
  | nil : DqAll K H [] []
  | cons {v : V} {vs : List V} {d : PyData} {ds : List PyData} : Dq K H v d → DqAll K H vs ds → DqAll K H (v :: vs) (d :: ds)
end
section
variable {X : Cx} {pins : List (Addr × Obj)} {σ : St} {H : Hp} {s : Shared}
theorem Fl.reads {h : Heap} : ∀ {v : V} {d : PyData} {u : Value}, Fl v d → RelV v u → Reads h u d []
  | _, _, _, .non, r => by cases r; exact .none
  | _, _, _, .bl b, r => by cases r; exact .bool b
  | _, _, _, .int i, r => by obtain ⟨t, rfl⟩ := r; exact .int i t
  | _, _, _, .str x, r => by obtain ⟨t, rfl⟩ := r; exact .str x t
theorem key_reads {h : Heap} {k : Key} {u : Value} (e : keyIs k u = true) : Reads h u (kyPy k) [] := by
  rcases keyIs_shape e with ⟨i, t, rfl, rfl⟩ | ⟨x, t, rfl, rfl⟩
  · exact .int i t
  · exact .str x t
theorem kv_reads {P : Program} {w : World} {h : Heap} : ∀ {kvs : List (Key × V)} {ps : List (PyData × PyData)} {vs : List (Key × Value)} {es : List DictEntry}, FlKv kvs ps → KV kvs vs → Pairs (mixKind P w) es vs →
    ReadsAll h (es.map (·.key)) (ps.map (·.1)) [] ∧ ReadsAll h (es.map (·.val)) (ps.map (·.2)) []
  | _, _, _, _, .nil, .nil, .nil => ⟨.nil, .nil⟩
  | _, _, _, _, .cons f r, .cons e r2, .cons k1 k2 r3 => by
    obtain ⟨h1, h2⟩ := kv_reads (h := h) r r2 r3
    refine ⟨?_, ?_⟩
    · exact ReadsAll.cons (as := []) (bs := []) (key_reads (k := _) (by have e1 := e.1; simp only at e1; show keyIs _ _ = true; rw [e1]; exact k1)) h1
    · refine ReadsAll.cons (as := []) (bs := []) (f.reads ?_) h2
      show RelV _ (DictEntry.val _)
      rw [k2]
      exact e.2
mutual
theorem Dq.reads (I : Inv X pins σ H s) : ∀ (d : PyData) (v : V) (u : Value), Dq X.K H v d → RelV v u → ∃ as, Reads s.heap u d as ∧ sysModules ∉ as
  | .none, _, _, h, r => by
    cases h with
    | fl f => exact ⟨_, f.reads r, by simp⟩
  | .bool b, _, _, h, r => by
    cases h with
    | fl f => exact ⟨_, f.reads r, by simp⟩
  | .int i, _, _, h, r => by
    cases h with
    | fl f => exact ⟨_, f.reads r, by simp⟩
  | .str x, _, _, h, r => by
    cases h with
    | fl f => exact ⟨_, f.reads r, by simp⟩
  | .list ds, _, _, h, r => by
    cases h with
    | fl f => cases f
  | .tuple ds, _, _, h, r => by
    cases h with
    | fl f => cases f
    | tup hs ha =>
      cases r
      obtain ⟨its, rv, ⟨o, ho, hc, n, hd⟩, _⟩ := I.tuple hs
      obtain ⟨as, hr, hn⟩ := Dq.readsAll I ds _ its ha rv
      exact ⟨_, Reads.tuple ho hc hd hr, hn⟩
  | .dict ps, _, _, h, r => by
    cases h with
    | fl f => cases f
    | dic hs ha =>
      cases r
      obtain ⟨_, hsys, vs, kv, o, es, ep, ho, hx, hdt, _, hp, _⟩ := dk_rd I.hok hs
      obtain ⟨h1, h2⟩ := kv_reads (h := s.heap) ha kv hp
      refine ⟨_, Reads.dict ho hx.1 hdt h1 h2, ?_⟩
      intro hm
      simp at hm
      rw [← hm] at hsys
      simp at hsys
theorem Dq.readsAll (I : Inv X pins σ H s) : ∀ (ds : List PyData) (vs : List V) (us : List Value), DqAll X.K H vs ds → Vals vs us → ∃ as, ReadsAll s.heap us ds as ∧ sysModules ∉ as
  | [], _, _, h, r => by
    cases h
    cases r
    exact ⟨_, ReadsAll.nil, by simp⟩
  | d :: ds, _, _, h, r => by
    cases h with
    | cons h1 h2 =>
      cases r with
      | cons r1 r2 =>
        obtain ⟨as, q1, n1⟩ := Dq.reads I d _ _ h1 r1
        obtain ⟨bs, q2, n2⟩ := Dq.readsAll I ds _ _ h2 r2
        exact ⟨_, ReadsAll.cons q1 q2, fun h => (List.mem_append.mp h).elim n1 n2⟩
end
end
/-- what repr shows -/
def Dz (K : PySem.W.Frag) (H : Hp) (v : V) (p : PyData) : Prop := (Dp K H v p ∧ p.hasDict = false) ∨ Dq K H v p ∨ ∃ a xs ds, v = .ref a ∧ H a = some (.lst xs) ∧ DqAll K H xs ds ∧ p = .list ds
def rReprZ (K : PySem.W.Frag) : List V → Hp → VK → Prop := fun xs H Q => ∃ v p, xs = [v] ∧ Dz K H v p ∧ p.showable = true ∧ p.depth ≤ 60 ∧ p.shown.length ≤ sizeLine ∧ Q (.str p.shown) H
theorem call_reprZ {X : Cx} (hg : X.A.guards = some []) (hu : X.A.units + 65 < cLine) : CallR X (.builtin "repr") (rReprZ X.K) := by
  intro pins s σ H xs us Q I r h
  obtain ⟨v, p, rfl, hz, hs, hdp, hl, q⟩ := h
  obtain ⟨u, rfl, ru⟩ := vals1 r
  have big : ∀ {a as}, Reads s.heap (.ref a) p as → (p.hasDict = true → sysModules ∉ as) → wpAny (model X.prog X.w) X.A (call (.builtin "repr") [.ref a]) (fun v1 s1 => ∃ v H1, Inv X pins σ H1 s1 ∧ RelV v v1 ∧ Q v H1) X.xe s := by
    intro a as rd hsm
    exact repr_of_reads' rd hs hsm hg (by omega) (fun b o e => e) (fun h' t tk hk => ⟨.str _, H, I.kept (t' := tk) fun b o e => hk b o e, ⟨t, rfl⟩, q⟩) hl
  have flat : Fl v p → wpAny (model X.prog X.w) X.A (call (.builtin "repr") [u]) (fun v1 s1 => ∃ v H1, Inv X pins σ H1 s1 ∧ RelV v v1 ∧ Q v H1) X.xe s := by
    intro f
    cases f with
    | non =>
      cases ru
      exact PySem.P.repr_of_none ⟨.str _, H, I.tok _, ⟨_, by simp only [PyData.shown]; rfl⟩, q⟩
    | bl b =>
      cases ru
      exact PySem.P.repr_of_bool ⟨.str _, H, I.tok _, ⟨_, by simp only [PyData.shown]; cases b <;> rfl⟩, q⟩
    | int i =>
      obtain ⟨t, rfl⟩ := ru
      exact PySem.P.repr_of_int (by simpa [PyData.showable] using hs) ⟨.str _, H, I.tok _, ⟨s.toks, by simp only [PyData.shown]⟩, q⟩
    | str x =>
      obtain ⟨t, rfl⟩ := ru
      exact PySem.P.repr_of_str ⟨.str _, H, I.tok _, ⟨s.toks, by simp only [PyData.shown]⟩, q⟩ (by simpa only [PyData.shown] using hl)
  rcases hz with ⟨hd, hn⟩ | hd | ⟨a, xs, ds, rfl, ha, hall, rfl⟩
  · obtain ⟨as, rd⟩ := Dp.reads I p v u hd ru
    cases hd with
    | non => exact flat .non
    | bl b => exact flat (.bl b)
    | int i => exact flat (.int i)
    | str x => exact flat (.str x)
    | lst _ _ =>
      cases (show u = Value.ref _ from ru)
      exact big rd fun e => by rw [hn] at e; cases e
    | tup _ _ =>
      cases (show u = Value.ref _ from ru)
      exact big rd fun e => by rw [hn] at e; cases e
  · obtain ⟨as, rd, no⟩ := Dq.reads I p v u hd ru
    cases hd with
    | fl f => exact flat f
    | tup _ _ =>
      cases (show u = Value.ref _ from ru)
      exact big rd fun _ => no
    | dic _ _ =>
      cases (show u = Value.ref _ from ru)
      exact big rd fun _ => no
  · cases (show u = Value.ref a from ru)
    obtain ⟨its, rv, ⟨o, n, ho, hc, _, hd⟩, _⟩ := I.list (.inl (.inl ha))
    obtain ⟨as, hr, no⟩ := Dq.readsAll I ds xs its hall rv
    have hz' : (listText (PyData.shownAll ds)).length ≤ sizeLine := by simpa only [PyData.shown] using hl
    obtain ⟨bs, hb, hk⟩ := ReprAllK.of_readsAll (prog := X.prog) (w := X.w) hr (by simpa [PyData.showable] using hs) (fun _ => no) (fun t ht => Nat.le_trans (listText_mem_le ht) hz')
    have hna : a ∉ bs := not_mem_of_deeper (.list ho hc hd hr) (by simp only [PyData.depth]; omega) hb
    have hQ : ∀ h' t tk, (∀ b o, s.heap.get? b = some o → h'.get? b = some o) → ∃ v H1, Inv X pins σ H1 { s with heap := h', toks := tk } ∧ RelV v (.str (PyData.list ds).shown t) ∧ Q v H1 :=
      fun h' t tk hk => ⟨.str _, H, I.kept (t' := tk) fun b o e => hk b o e, ⟨t, rfl⟩, q⟩
    simp only [PyData.shown] at hQ
    simp only [PyData.depth] at hdp
    refine call_repr_slot (T := "list") (idr := "list.__repr__") (by omega) ⟨o, ho, hc⟩ PySem.F.slot_list_repr.toG ?_
    cases its with
    | nil =>
      cases hr
      simp only [PyData.shownAll, listText_nil] at hQ
      exact call_list_repr_empty ⟨o, ho, hc⟩ ho hd ⟨_, _, rfl, hQ s.heap _ _ fun _ _ e => e⟩
    | cons x l =>
      exact call_list_reprK (h₀ := s.heap) ho hc hd hna (by simpa using hk.length_eq) (fun i y e => hk.item i y (by simpa using e)) hg (fun b _ => Clear.nil b) (by show X.A.units + 1 + _ < cLine; omega) (fun b o e => e) (fun h' u tk hk' => ⟨_, _, rfl, hQ h' u tk hk'⟩) hz'
/-- what a def promises where it is called and nothing is shown -/
structure FnG (P : Program) (w : World) (K : PySem.W.Frag) (mg : Str → Option Value) (base : Heap) (CX : CXT) (k : Nat) (f : Addr) (fd : FuncData) (ps : List Str) (sp : Sp) : Prop where
  len : ∀ vs H Q E, sp vs H Q E → vs.length = ps.length
  run : ∀ (A : Around) (outer : List Env) (s : Shared) (H : Hp) (args : Args) (us : List Value) (vs : List V) (Q : VK) (E : XK), A.guards = some [] → Room k A → Env0 P w K mg base A outer s H → BindsTo s fd args (ps.zip us) → Vals vs us → sp vs H Q E →
    codeAny (model P w) A (.call (.ref f) args) (CR CX outer P w H s Q E) s
theorem FnG.imp {P : Program} {w : World} {K : PySem.W.Frag} {mg : Str → Option Value} {base : Heap} {CX : CXT} {k : Nat} {f : Addr} {fd : FuncData} {ps : List Str} {sp sp' : Sp} (F : FnG P w K mg base CX k f fd ps sp)
    (h : ∀ vs H Q E, sp' vs H Q E → sp vs H Q E) : FnG P w K mg base CX k f fd ps sp' :=
  ⟨fun vs H Q E q => F.len vs H Q E (h _ _ _ _ q), fun A outer s H args us vs Q E hg hr e b r q => F.run A outer s H args us vs Q E hg hr e b r (h _ _ _ _ q)⟩
theorem FnG.runC {P : Program} {w : World} {K : PySem.W.Frag} {mg : Str → Option Value} {base : Heap} {CX : CXT} {k : Nat} {f : Addr} {fd : FuncData} {ps : List Str} {sp : Sp} (F : FnG P w K mg base CX k f fd ps sp) (hr : Room k callerA) : RunC P w K mg base CX f fd ps sp :=
  ⟨fun outer s H args us vs Q E e b r q => F.run callerA outer s H args us vs Q E rfl hr e b r q⟩
theorem fnG_of {P : Program} {w : World} {K : PySem.W.Frag} {mg : Str → Option Value} {base : Heap} {CX : CXT} {k : Nat} {f : Addr} {fd : FuncData} {x qn : Str} {st : Stmt} {N ps : List Str} {sp : Sp} (F : Fun K x qn st f fd) (S : FnScope N ps (defScope st))
    (hlen : ∀ vs H Q E, sp vs H Q E → vs.length = ps.length)
    (body : ∀ (cdv : Value) (A : Around) (outer : List Env) (s : Shared) (H : Hp) (vs : List V) (Q : VK) (E : XK), A.guards = some [] → Room k (A.deeper (envOfC qn (defScope st) s.heap.objs.size f cdv)) → sp vs H Q E →
      ∃ t, PSs (cxOf CX P w K mg base N qn (defScope st) f cdv A outer s H E) (defBody st) t ∧ t { nx := fun _ H' => Q .non H', rt := Q } (start N vs) H) : FnG P w K mg base CX (k + 1) f fd ps sp := by
  obtain ⟨oc, od, kV, doc, pm, an, cdv, ct, osl, rfl, lk, hcd⟩ := F.ex
  refine ⟨hlen, ?_⟩
  intro A outer s H args us vs Q E hg hroom e0 hbind hvals hsp
  obtain ⟨t, ht, hread⟩ := body cdv A outer s H vs Q E hg (hroom.deeper _) hsp
  have inK : K.In s.heap := e0.mod.kin.keeps fun b o e => (e0.bs b o e).1
  have noLim : s.heap.NoLimit := e0.mod.nolimit.keeps fun b o e => (e0.bs b o e).1
  refine codeAny_call_function hroom.depth (inK _ _ lk) rfl S.co S.gen rfl (PySem.W.codeRec_of inK hcd) (hbind _ _ _ _ ?_)
  refine wpAny_newFunctionEnv_cells S.kind (fun p hp => ?_) fun env he s1 x => ?_
  · rcases S.par p.1 (List.of_mem_zip (a := p.1) (b := p.2) hp).1 with q | q
    · exact Or.inl q
    · exact Or.inr ⟨q, PySem.W.cellsFrom_some _ _ _ (Or.inl q)⟩
  · subst he
    refine ⟨noLim.keeps x.toInCall.keep, codeAny_func ?_⟩
    have J := inv_start (CX := CX) (E := E) S hroom.hd e0 (hlen _ _ _ _ hsp) hvals x
    refine wpAny_mono (ht.run [] s1 (start N vs) H _ J hread) (fun fl s' z => ?_) fun _ _ z => z
    cases fl with
    | next => obtain ⟨_, H', J', q⟩ := z; exact ⟨.non, H', J'.os, J'.bare, J'.base, J'.hok, rfl, q⟩
    | ret u => obtain ⟨v, _, H', J', rv, q⟩ := z; exact ⟨v, H', J'.os, J'.bare, J'.base, J'.hok, rv, q⟩
    | brk => obtain ⟨_, _, _, q⟩ := z; exact q.elim
    | cont => obtain ⟨_, _, _, q⟩ := z; exact q.elim
/-- walk_ofE for such a law -/
theorem walk_ofG {l : PySem.W.OpenLaw} {n k : Nat} {q : Program} {loose : List Str} {XP : (Str → Option Value) → Heap → Prop} {YP : World → Heap → Prop} {d : DefRec} {CX : CXT} {x : Str}
    (hn : l.most = some n) (hn2 : n ≤ sizeLine) (hdf : d.params.defaults = []) (hr : Room k callerA)
    (F : ∀ (w : World) (mg : Str → Option Value) (fa : Addr) (h : Heap), YP w h → h.Ns mainGlobals mg → mg d.name = some (.ref fa) →
      ∃ (K : PySem.W.Frag) (fd : FuncData) (sp : Sp), K.In h ∧ (∀ (s : Shared) (u : Value), BindsTo s fd ⟨[u], []⟩ [(x, u)]) ∧
        (∀ (H : Hp) (a : Addr) (ns : List Int), ns.length ≤ n → Only H → SqL K H a (ns.map V.int) → sp [.ref a] H (fun v _ => v = .bl true) fun _ _ _ => False) ∧
        ∀ base : Heap, K.In base → base.Ns mainGlobals mg → FnG l.prog w K mg base CX k fa fd [x] sp)
    (hCX : ∀ (H : Hp) (s : Shared) (e : Value) (s' : Shared), CX [] H s (fun _ _ _ => False) e s' → False) :
    PySem.W.WalkO q loose XP YP l.row.toRowW d [] (fun f vs => PySem.call f vs) := by
  refine Att.attach_call hn hdf ?_
  intro w s₀ s₁ mg mb fa o pm cd doc a vs ns G Y _ _ _ hm at_a hInts len noGen
  obtain ⟨K, fd, sp, KX, hb, hsp, hF⟩ := F w mg fa _ Y G.T.g hm
  exact top_call KX G.T.g G.T.b G.T.builtins G.T.nolimit noGen at_a hInts (Nat.le_trans len hn2) (fun base k1 k2 => (hF base k1 k2).runC hr) hb (fun H h1 h2 => hsp H a ns len h1 h2) fun H e s' => hCX H s₁ e s'
/-- such a def by its name -/
structure Dg (P : Program) (w : World) (K : PySem.W.Frag) (mg : Str → Option Value) (base : Heap) (k : Nat) (x : Str) (sp : Sp) : Prop where
  ex : ∃ (f : Addr) (fd : FuncData) (ps : List Str), FnG P w K mg base (L2.CX P w) k f fd ps sp ∧ mg x = some (.ref f) ∧ PySem.W.keepIn K (.ref f) = true ∧ Binds K fd ps []
section
variable {X : Cx} {CX : CXT} {k j : Nat} {x : Str} {f : Addr} {fd : FuncData} {ps : List Str} {sp : Sp} {E : XK} {ds : List Value} {dvs : List V} {p pos : Pos} {e : Expr} {es : List Expr} {t : TA}
theorem run_fnG {pins : List (Addr × Obj)} {σ : L2.St} {H : Hp} {s : Shared} {Q : VK} {us : List Value} {vs : List V} (F : FnG X.prog X.w X.K X.mg X.base CX k f fd ps sp) (hgd : X.A.guards = some []) (hr : Room k X.A) (hb : Binds X.K fd ps ds) (hd : Vals dvs ds) (hx : Passes CX X E)
    (I : Inv X pins σ H s) (r : Vals vs us) (h : sp (vs ++ dvs) H Q E) : wpAny (model X.prog X.w) X.A (call (.ref f) us) (EP X pins σ Q) X.xe s := by
  have r2 : Vals (vs ++ dvs) (us ++ ds) := r.append hd
  have hl : (us ++ ds).length = ps.length := by rw [← r2.length]; exact F.len _ _ _ _ h
  refine wpAny_call (codeAny_mono (F.run X.A X.stack s H ⟨us, []⟩ (us ++ ds) (vs ++ dvs) Q E hgd hr I.env0 (hb s us I.kIn hl) r2 h) fun r s' hq => ?_)
  cases r with
  | error e => exact hx pins σ H s e s' I hq
  | ok fl =>
    cases fl with
    | ret u => exact I.after hq
    | next => exact False.elim hq
    | brk => exact False.elim hq
    | cont => exact False.elim hq
theorem pe_dg0 (c : Dg X.prog X.w X.K X.mg X.base k x sp) (hgd : X.A.guards = some []) (hr : Room j X.A) (hk : k ≤ j) (hg : Gl X x) (ha : PA X (e :: es) t)
    (hdb : (x == ("__debug__" : Str)) = false := by decide) (he : starEach (e :: es) X.env = (false, eval e X.env) :: starEach es X.env := by rfl) (hpl : (backTo pos (starEach es X.env)).any (·.1) = false := by rfl) :
    PE X (.Call (.Name x p) (e :: es) [] pos) (tCall sp [] E0 t) := by
  obtain ⟨f, fd, ps, F, hm, kp, b⟩ := c.ex
  refine ⟨fun pins s σ H Q I h => ?_⟩
  refine wpAny_Call_Name_kw (ld_glob I hg hm ?_ hdb)
  refine PySem.W.callWith_K (h₀ := X.base) I.ok.mod.kin kp (thn (ha.run pos pins s σ H _ I h) fun us s1 ⟨vs, H1, I1, r, q⟩ => ⟨I1.kIn, ?_⟩) he hpl
  exact run_fnG F hgd (hr.mono hk) b .nil passL I1 r q
end
end L2
namespace SM
open PySem L2 DL
section
variable {P : Program} {w : World} {K : PySem.W.Frag} {mg : Str → Option Value} {base : Heap} {ca : CaT} {x qn : Str} {st : Stmt} {fa : Addr} {fd : FuncData} {N ps : List Str} {k : Nat}
theorem Fn.ofG {n : Nat} {b : S} (F : Fun K x qn st fa fd) (S : FnScope N ps (defScope st)) (hn : ps.length = n)
    (body : ∀ (cdv : Value) (A : Around) (outer : List PySem.Env) (s : Shared) (H : Hp) (E : XK), A.guards = some [] → Room k (A.deeper (PyProof.Rows.envOfC qn (defScope st) s.heap.objs.size fa cdv)) →
      ∃ t, PSs (cxOf (L2.CX P w) P w K mg base N qn (defScope st) fa cdv A outer s H E) (defBody st) t ∧ SimS K ca (fun cls d _ H => E cls d H) t b) : FnG P w K mg base (L2.CX P w) (k + 1) fa fd ps (SpF K ca (mkFn n N.length b)) :=
  fnG_of F S (fun vs H Q E h => by rw [hn]; exact spF_len h) fun cdv A outer s H vs Q E hg hr h => by
    obtain ⟨t, h1, h2⟩ := body cdv A outer s H E hg hr
    exact ⟨t, h1, run_SpF h h2⟩
theorem Fn.ofG0 {n : Nat} {b : S} (F : Fun K x qn st fa fd) (S : FnScope N ps (defScope st)) (hn : ps.length = n)
    (body : ∀ (cdv : Value) (A : Around) (outer : List PySem.Env) (s : Shared) (H : Hp) (E : XK), A.guards = some [] → Room k (A.deeper (PyProof.Rows.envOfC qn (defScope st) s.heap.objs.size fa cdv)) →
      ∃ t, PSs (cxOf CX0 P w K mg base N qn (defScope st) fa cdv A outer s H E).nox (defBody st) t ∧ SimS K ca (fun cls d _ H => E cls d H) t b) : FnG P w K mg base CX0 (k + 1) fa fd ps (SpF K ca (mkFn n N.length b)) :=
  fnG_of F S (fun vs H Q E h => by rw [hn]; exact spF_len h) fun cdv A outer s H vs Q E hg hr h => by
    obtain ⟨t, h1, h2⟩ := body cdv A outer s H E hg hr
    exact ⟨t, h1.nox, run_SpF h h2⟩
end
/-! ### what repr shows, as plain data -/
def fl1 : D → Option PyData
  | .non => some .none
  | .bl b => some (.bool b)
  | .int i => some (.int i)
  | .str x => some (.str x)
  | _ => none
def kyP : D → PyData
  | .int i => .int i
  | .str x => .str x
  | _ => .none
def flKv : List (D × D) → Option (List (PyData × PyData))
  | [] => some []
  | (k, v) :: r => match fl1 v, flKv r with
    | some p, some q => some ((kyP k, p) :: q)
    | _, _ => none
def pyQ (A : Hs) : Nat → D → Option PyData
  | n + 1, .tup l => (allSome (l.map (pyQ A n))).map .tuple
  | n + 1, .wt l => (allSome (l.map (pyQ A n))).map .tuple
  | _ + 1, .ref i => match A[i]? with
    | some (.dic false _ l) => (flKv l).map .dict
    | _ => none
  | _, d => fl1 d
def pyR (A : Hs) (d : D) : Option PyData := match pyA A 40 d with
  | some p => if p.hasDict then none else some p
  | none => match pyQ A 40 d with
    | some p => some p
    | none => match d with
      | .ref i => match A[i]? with
        | some (.lst l) => (allSome (l.map (pyQ A 40))).map .list
        | _ => none
      | _ => none
def oRepr (d : D) (A : Hs) : RE D := match pyR A d with
  | some p => if p.showable = true ∧ p.depth ≤ 60 ∧ p.shown.length ≤ sizeLine then .ok (.str p.shown) A else .stuck
  | none => .stuck
section
variable {K : PySem.W.Frag} {ca : CaT} {F H : Hp} {m : List Addr} {A : Hs}
theorem fl_of : ∀ {v : V} {d : D} {p : PyData}, Rep K ca F m v d → fl1 d = some p → Fl v p
  | _, _, _, .non, h => by cases h; exact .non
  | _, _, _, .bl b, h => by cases h; exact .bl b
  | _, _, _, .int i, h => by cases h; exact .int i
  | _, _, _, .str x, h => by cases h; exact .str x
  | _, _, _, .ty _, h => by cases h
  | _, _, _, .tup _ _, h => by cases h
  | _, _, _, .wt _ _, h => by cases h
  | _, _, _, .scr _ _, h => by cases h
  | _, _, _, .ref _, h => by cases h
  | _, _, _, .nm _, h => by cases h
  | _, _, _, .exc _, h => by cases h
theorem flKv_of : ∀ {kvs : List (Key × V)} {l : List (D × D)} {ps : List (PyData × PyData)}, KvR K ca F m kD kvs l → flKv l = some ps → FlKv kvs ps
  | _, _, _, .nil, h => by cases h; exact .nil
  | _, _, _, .cons (k := k) (d := d) (s := s) r rs, h => by
    unfold flKv at h
    cases q1 : fl1 d with
    | none => simp [q1] at h
    | some p =>
      cases q2 : flKv s with
      | none => simp [q1, q2] at h
      | some qs =>
        simp only [q1, q2] at h
        cases h
        have e : kyP (kD k) = kyPy k := by cases k <;> rfl
        rw [e]
        exact .cons (fl_of r q1) (flKv_of rs q2)
theorem dq_all {n : Nat} (ih : ∀ {v : V} {d : D} {p : PyData}, Rep K ca F m v d → pyQ A n d = some p → Dq K H v p) :
    ∀ {vs : List V} {l : List D} {ps : List PyData}, RepL K ca F m vs l → allSome (l.map (pyQ A n)) = some ps → DqAll K H vs ps
  | _, _, _, .nil, h => by cases h; exact .nil
  | _, _, _, .cons (d := d) (ds := ds) r rs, h => by
    rw [List.map_cons] at h
    cases q : pyQ A n d with
    | none => rw [q] at h; cases h
    | some p =>
      rw [q] at h
      unfold allSome at h
      cases q2 : allSome (ds.map (pyQ A n)) with
      | none => rw [q2] at h; cases h
      | some ps =>
        rw [q2] at h
        cases h
        exact .cons (ih r q) (dq_all ih rs q2)
theorem dq_of (R : Rl K ca F m A H) : ∀ {n : Nat} {v : V} {d : D} {p : PyData}, Rep K ca F m v d → pyQ A n d = some p → Dq K H v p := by
  intro n
  induction n with
  | zero =>
    intro v d p r h
    unfold pyQ at h
    exact .fl (fl_of r h)
  | succ n ih =>
    intro v d p r h
    cases r with
    | tup s rs =>
      unfold pyQ at h
      cases q : allSome (List.map (pyQ A n) _) with
      | none => rw [q] at h; cases h
      | some ps =>
        rw [q] at h; cases h
        exact .tup (.inl (.inl (R.fh _ _ s))) (dq_all ih rs q)
    | wt s rs =>
      unfold pyQ at h
      cases q : allSome (List.map (pyQ A n) _) with
      | none => rw [q] at h; cases h
      | some ps =>
        rw [q] at h; cases h
        exact .tup (R.fh.t s) (dq_all ih rs q)
    | ref hm =>
      rename_i a i
      unfold pyQ at h
      cases q0 : A[i]? with
      | none => simp [q0] at h
      | some o =>
        cases o with
        | dic b lk l =>
          cases b with
          | true => simp [q0] at h
          | false =>
            simp only [q0] at h
            cases q : flKv l with
            | none => rw [q] at h; cases h
            | some ps =>
              rw [q] at h; cases h
              obtain ⟨a', e, ha, kvs, h1, h2⟩ := R.at (v := .ref a) q0 (.ref hm)
              cases e
              refine .dic ?_ (flKv_of h2 q)
              cases lk with
              | false => exact .inl h1
              | true => exact .inr h1
        | lst _ => simp [q0] at h
        | obj _ _ => simp [q0] at h
        | nd _ => simp [q0] at h
    | non => unfold pyQ at h; exact .fl (fl_of (K := K) (ca := ca) (F := F) (m := m) .non h)
    | bl b => unfold pyQ at h; exact .fl (fl_of (K := K) (ca := ca) (F := F) (m := m) (.bl b) h)
    | int i => unfold pyQ at h; exact .fl (fl_of (K := K) (ca := ca) (F := F) (m := m) (.int i) h)
    | str x => unfold pyQ at h; exact .fl (fl_of (K := K) (ca := ca) (F := F) (m := m) (.str x) h)
    | ty x => unfold pyQ at h; exact .fl (fl_of (K := K) (ca := ca) (F := F) (m := m) (.ty x) h)
    | nm x => unfold pyQ at h; exact .fl (fl_of (K := K) (ca := ca) (F := F) (m := m) (.nm x) h)
    | scr s rs => unfold pyQ at h; exact .fl (fl_of (K := K) (ca := ca) (F := F) (m := m) (.scr s rs) h)
    | exc e => unfold pyQ at h; exact .fl (fl_of (K := K) (ca := ca) (F := F) (m := m) (.exc e) h)
theorem dz_of {v : V} {d : D} {p : PyData} (R : Rl K ca F m A H) (r : Rep K ca F m v d) (h : pyR A d = some p) : Dz K H v p := by
  unfold pyR at h
  split at h
  · rename_i p1 q1
    split at h
    · cases h
    · rename_i hn
      cases h
      exact .inl ⟨(dp_of R r q1).1, by simpa using hn⟩
  · split at h
    · rename_i p1 q1
      cases h
      exact .inr (.inl (dq_of R r q1))
    · split at h
      · rename_i i
        split at h
        · rename_i l q0
          cases q : allSome (List.map (pyQ A 40) l) with
          | none => rw [q] at h; cases h
          | some ps =>
            rw [q] at h; cases h
            obtain ⟨a, e, ha, vs, h1, h2⟩ := R.at q0 r
            exact .inr (.inr ⟨a, vs, ps, e, h1, dq_all (fun r => dq_of R r) h2 q, rfl⟩)
        · cases h
      · cases h
theorem cs_repr : CbS K ca (rReprZ K) (c1 oRepr) := cs_1 fun F m A H x dx W σ Q R rx p => by
  unfold oRepr at p
  split at p
  · rename_i pd q1
    split at p
    · rename_i hc
      exact ⟨x, pd, rfl, dz_of R rx q1, hc.1, hc.2.1, hc.2.2, po_ok R (.str _) p⟩
    · exact p.elim
  · exact p.elim
end
end SM

/-! ## a dict == a list: never -/
namespace PySem.SeqAt
open AutoSeq1 (wpAny_loadPart')
open MeetsSeq
theorem list_eq_declines_dict (l b : Addr) (items : Array Value) (es : Array DictEntry) (n n2 : Nat) (dd dd2 : Option Addr) (sl sl2 : Array (Option Value)) :
    Meets (Builtin.«list.__eq__» ⟨[.ref l, .ref b], []⟩) (fun _ R s => s.heap.get? l = some { cls := .type "list", dict := dd, data := .seq items n, slots := sl } ∧ s.heap.get? b = some { cls := .type "dict", dict := dd2, data := .dict es n2, slots := sl2 } ∧ R (.ok (.ret .notImplemented)) s) :=
  .of_wp fun prog w A R s h => by obtain ⟨hp, g, d, tk, os⟩ := s; obtain ⟨hl, hb, h⟩ := h; have f1 := F.sub_dict_list; wp_walk using wpAny_loadPart' hl, wpAny_loadPart' hb; exact ⟨_, rfl, h⟩
theorem dict_eq_declines_list (l b : Addr) (es : Array DictEntry) (items : Array Value) (n n2 : Nat) (dd dd2 : Option Addr) (sl sl2 : Array (Option Value)) :
    Meets (Builtin.«dict.__eq__» ⟨[.ref l, .ref b], []⟩) (fun _ R s => s.heap.get? l = some { cls := .type "dict", dict := dd, data := .dict es n, slots := sl } ∧ s.heap.get? b = some { cls := .type "list", dict := dd2, data := .seq items n2, slots := sl2 } ∧ R (.ok (.ret .notImplemented)) s) :=
  .of_wp fun prog w A R s h => by obtain ⟨hp, g, d, tk, os⟩ := s; obtain ⟨hl, hb, h⟩ := h; have f1 := F.sub_list_dict; wp_walk using wpAny_loadPart' hl, wpAny_loadPart' hb; exact ⟨_, rfl, h⟩
theorem RcAt.dict_list {A : Around} {s : Shared} {l b : Addr} {es : Array DictEntry} {items : Array Value} {n n2 : Nat} {dd dd2 : Option Addr} {sl sl2 : Array (Option Value)} (ho : s.heap.get? l = some { cls := .type "dict", dict := dd, data := .dict es n, slots := sl })
    (ho2 : s.heap.get? b = some { cls := .type "list", dict := dd2, data := .seq items n2, slots := sl2 }) (hu : A.units < cLine) : RcAt A s (.ref l) (.ref b) false := fun prog w E Q h => by
  have hne : l ≠ b := fun e => by
    subst e
    rw [ho] at ho2
    have z := congrArg Obj.cls (Option.some.inj ho2)
    simp at z
  exact (rc_eq_decline_or (k := false) ⟨_, ho, rfl⟩ ⟨_, ho2, rfl⟩ (by decide) F.sub_list_dict F.slot_dict_eq F.slot_list_eq_refl
    (fun _ hq => call_meets F.slot_dict_eq ⟨_, ho, rfl⟩ F.entry_dict_eq (F.args_dict_eq_2 _ _) (dict_eq_declines_list l b es items n n2 dd dd2 sl sl2) ⟨ho, ho2, hq⟩)
    (fun _ hq => call_meets F.slot_list_eq_refl ⟨_, ho2, rfl⟩ F.entry_list_eq (F.args_list_eq_2 _ _) (list_eq_declines_dict b l items es n2 n dd2 dd sl2 sl) ⟨ho2, ho, hq⟩)
    (fun _ hq => wpAny_isSame_ref_other' hne ho ho2 (by simp) hq) (.inr hu) h)
end PySem.SeqAt
namespace L2
open PySem PySem.Spec PyProof.Rows
def rEqX (K : PySem.W.Frag) : R2 := fun x y H Q => rEqP K x y H Q ∨ ∃ a b kvs xs, x = .ref a ∧ y = .ref b ∧ Rd H a (.dK kvs) ∧ H b = some (.lst xs) ∧ Q (.bl false) H
theorem op_eqX {X : Cx} {K : PySem.W.Frag} (hu : X.A.units + 65 < cLine) (e : X.K = K := by rfl) : OpR X (compareOp .Eq) (rEqX K) := by
  intro pins s σ H x y v u Q I rx ry h
  rcases h with h | ⟨a, b, kvs, xs, rfl, rfl, ha, hb, q⟩
  · exact op_eqPK hu e pins s σ H x y v u Q I rx ry h
  · cases (show v = Value.ref a from rx)
    cases (show u = Value.ref b from ry)
    obtain ⟨its, rv, ⟨o, n, ho, hc, _, hd⟩, _⟩ := I.list (.inl (.inl hb))
    obtain ⟨_, _, vs, kv, o2, es, ep, ho2, hx, hdt, _⟩ := dk_rd I.hok ha
    obtain ⟨cls, dd, data, sl⟩ := o
    obtain ⟨cls2, dd2, data2, sl2⟩ := o2
    have hc2 := hx.1
    simp only at hc hd hc2 hdt
    subst hc hd hc2 hdt
    exact PySem.SeqAt.RcAt.dict_list ho2 ho (by omega) X.prog X.w _ _ ⟨.bl _, H, I, rfl, q⟩
end L2
namespace SM
open PySem L2 DL
def dlB (A : Hs) (x y : D) : Bool := match x, y with
  | .ref i, .ref j => match A[i]?, A[j]? with
    | some (.dic false _ _), some (.lst _) => true
    | _, _ => false
  | _, _ => false
def oEqX (x y : D) (A : Hs) : RE D := if dlB A x y then .ok (.bl false) A else oEq x y A
section
variable {K : PySem.W.Frag} {ca : CaT} {A : Hs} {x y : D}
theorem os_eqX : OpS K ca (rEqX K) oEqX := fun F m A H x y dx dy W σ Q R rx ry p => by
  unfold oEqX at p
  split at p
  · rename_i h
    unfold dlB at h
    split at h
    · rename_i i j
      split at h
      · rename_i lk l l2 q1 q2
        obtain ⟨a, e, ha, kvs, h1, h2⟩ := R.at q1 rx
        obtain ⟨b, e2, hb, vs, h3, h4⟩ := R.at q2 ry
        refine .inr ⟨a, b, kvs, vs, e, e2, ?_, h3, po_ok R (.bl _) p⟩
        cases lk with
        | false => exact .inl h1
        | true => exact .inr h1
      · cases h
    · cases h
  · exact .inl (os_eq F m A H x y dx dy W σ Q R rx ry p)
theorem eqX_no (h : dlB A x y = false) : oEqX x y A = oEq x y A := by
  unfold oEqX
  rw [h]
  rfl
theorem eqX_dl {i j : Nat} {lk : Bool} {kv : List (D × D)} {l : List D} (h : A[i]? = some (.dic false lk kv)) (k : A[j]? = some (.lst l)) : oEqX (.ref i) (.ref j) A = .ok (.bl false) A := by
  unfold oEqX dlB
  simp only [h, k, if_true]
end
end SM

namespace Hx
open PySem PySem.Spec PyProof.Rows L2 SM
section
variable {w : World} {K : Hk.Fk}
theorem g_Judge (c : Hk.SaysK exs fn ts w K) : PySem.W.nsIn K mainGlobals "Judge" = some (some (.ref (He.ga K "Judge"))) := c.is 0 (f := q0)
theorem g_NoBook (c : Hk.SaysK exs fn ts w K) : PySem.W.nsIn K mainGlobals "NoBook" = some (some (.ref (He.ga K "NoBook"))) := c.is 1 (f := q1)
theorem g_STANDS (c : Hk.SaysK exs fn ts w K) : PySem.W.nsIn K mainGlobals "STANDS" = some (some (.ref (He.ga K "STANDS"))) := c.is 2 (f := q2)
theorem z_all (c : Hk.SaysK exs fn ts w K) : PySem.W.nsIn K mainGlobals "all" = some none := c.is 3 (f := q3)
theorem z_bool (c : Hk.SaysK exs fn ts w K) : PySem.W.nsIn K mainGlobals "bool" = some none := c.is 4 (f := q4)
theorem z_dict (c : Hk.SaysK exs fn ts w K) : PySem.W.nsIn K mainGlobals "dict" = some none := c.is 5 (f := q5)
theorem z_enumerate (c : Hk.SaysK exs fn ts w K) : PySem.W.nsIn K mainGlobals "enumerate" = some none := c.is 6 (f := q6)
theorem z_int (c : Hk.SaysK exs fn ts w K) : PySem.W.nsIn K mainGlobals "int" = some none := c.is 7 (f := q7)
theorem z_isinstance (c : Hk.SaysK exs fn ts w K) : PySem.W.nsIn K mainGlobals "isinstance" = some none := c.is 8 (f := q8)
theorem z_len (c : Hk.SaysK exs fn ts w K) : PySem.W.nsIn K mainGlobals "len" = some none := c.is 9 (f := q9)
theorem z_list (c : Hk.SaysK exs fn ts w K) : PySem.W.nsIn K mainGlobals "list" = some none := c.is 10 (f := q10)
theorem z_max (c : Hk.SaysK exs fn ts w K) : PySem.W.nsIn K mainGlobals "max" = some none := c.is 11 (f := q11)
theorem z_range (c : Hk.SaysK exs fn ts w K) : PySem.W.nsIn K mainGlobals "range" = some none := c.is 12 (f := q12)
theorem z_repr (c : Hk.SaysK exs fn ts w K) : PySem.W.nsIn K mainGlobals "repr" = some none := c.is 13 (f := q13)
theorem z_sorted (c : Hk.SaysK exs fn ts w K) : PySem.W.nsIn K mainGlobals "sorted" = some none := c.is 14 (f := q14)
theorem z_str (c : Hk.SaysK exs fn ts w K) : PySem.W.nsIn K mainGlobals "str" = some none := c.is 15 (f := q15)
theorem z_tuple (c : Hk.SaysK exs fn ts w K) : PySem.W.nsIn K mainGlobals "tuple" = some none := c.is 16 (f := q16)
theorem y_BYTE (c : Hk.SaysK exs fn ts w K) : Hk.intB K "BYTE" 255 = true := c.fact 17 (f := q17)
theorem y_MOST_BYTE (c : Hk.SaysK exs fn ts w K) : Hk.intB K "MOST_BYTE" 255 = true := c.fact 18 (f := q18)
theorem y_MOST_DATA (c : Hk.SaysK exs fn ts w K) : Hk.intB K "MOST_DATA" 1000 = true := c.fact 19 (f := q19)
theorem y_SIZE (c : Hk.SaysK exs fn ts w K) : Hk.intB K "SIZE" 4294967296 = true := c.fact 20 (f := q20)
theorem e_NoBook (c : Hk.SaysK exs fn ts w K) : PySem.W.excIn K (He.ga K "NoBook") [.type "ValueError", .type "Exception", .type "BaseException", .type "object"] "ValueError.__new__" = true := c.is 21 (f := q21)
theorem k_NoBook (c : Hk.SaysK exs fn ts w K) : PySem.W.keepIn K (.ref (He.ga K "NoBook")) = true := c.is 22 (f := q22)
theorem b_NoBook (c : Hk.SaysK exs fn ts w K) : PySem.W.subIn K (.ref (He.ga K "NoBook")) (.type "BaseException") = some true := c.is 23 (f := q23)
theorem t_NoBook (c : Hk.SaysK exs fn ts w K) : PySem.W.typeIn K (.ref (He.ga K "NoBook")) = some (.type "type") := c.is 24 (f := q24)
theorem cl_Judge__0 (c : Hk.SaysK exs fn ts w K) : PySem.W.plainGet K (He.ga K "Judge") PySem.Str.empty = true := c.is 25 (f := q25)
theorem cl_Judge__1 (c : Hk.SaysK exs fn ts w K) : PySem.W.hasDictIn K (He.ga K "Judge") = true := c.is 26 (f := q26)
theorem cl_Judge__2 (c : Hk.SaysK exs fn ts w K) : PySem.W.plainOver K (He.ga K "Judge") = true := c.is 27 (f := q27)
theorem cl_Judge__3 (c : Hk.SaysK exs fn ts w K) : PySem.W.findIn K (.ref (He.ga K "Judge")) "__setattr__" = some (some (.builtin "object.__setattr__")) := c.is 28 (f := q28)
theorem cl_Judge (c : Hk.SaysK exs fn ts w K) : Cls K (He.ga K "Judge") := ⟨cl_Judge__0 c, cl_Judge__1 c, cl_Judge__2 c, cl_Judge__3 c⟩
theorem mk_Judge (c : Hk.SaysK exs fn ts w K) : PySem.W.makesIn K (He.ga K "Judge") = true := c.is 29 (f := q29)
theorem kc_Judge (c : Hk.SaysK exs fn ts w K) : PySem.W.keepIn K (.ref (He.ga K "Judge")) = true := c.is 30 (f := q30)
theorem n_Judge_had (c : Hk.SaysK exs fn ts w K) : PySem.W.findIn K (.ref (He.ga K "Judge")) "had" = some none := c.is 31 (f := q31)
theorem n_Judge_openings (c : Hk.SaysK exs fn ts w K) : PySem.W.findIn K (.ref (He.ga K "Judge")) "openings" = some none := c.is 32 (f := q32)
theorem n_Judge_written (c : Hk.SaysK exs fn ts w K) : PySem.W.findIn K (.ref (He.ga K "Judge")) "written" = some none := c.is 33 (f := q33)
theorem in_Judge__0 (c : Hk.SaysK exs fn ts w K) : PySem.W.findIn K (.ref (He.ga K "Judge")) "__class__" = some (some (.builtin "object.__class__")) := c.is 34 (f := q34)
theorem in_Judge__1 (c : Hk.SaysK exs fn ts w K) : PySem.W.specialIn K (.builtin "object.__class__") "__get__" = some (some (.builtin "getset_descriptor.__get__")) := c.is 35 (f := q35)
theorem in_Judge__2 (c : Hk.SaysK exs fn ts w K) : PySem.W.takesIn K (.builtin "object.__class__") = some true := c.is 36 (f := q36)
theorem in_Judge__3 (c : Hk.SaysK exs fn ts w K) : PySem.W.mroIn K (He.ga K "Judge") (.type "object") = some true := c.is 37 (f := q37)
theorem in_Judge (c : Hk.SaysK exs fn ts w K) : DL.InC K (He.ga K "Judge") := ⟨cl_Judge c, in_Judge__0 c, in_Judge__1 c, in_Judge__2 c, in_Judge__3 c⟩
theorem x_NoBook__0 (c : Hk.SaysK exs fn ts w K) : PySem.W.findIn K (.ref (He.ga K "NoBook")) "__getattribute__" = some (some (.builtin "BaseException.__getattribute__")) := c.is 38 (f := q38)
theorem x_NoBook__1 (c : Hk.SaysK exs fn ts w K) : PySem.W.findIn K (.ref (He.ga K "NoBook")) "__getattr__" = some none := c.is 39 (f := q39)
theorem x_NoBook__2 (c : Hk.SaysK exs fn ts w K) : PySem.W.subIn K (.ref (He.ga K "NoBook")) (.type "BaseException") = some true := c.is 40 (f := q40)
theorem x_NoBook__3 (c : Hk.SaysK exs fn ts w K) : PySem.W.hasDictIn K (He.ga K "NoBook") = true := c.is 41 (f := q41)
theorem x_NoBook__4 (c : Hk.SaysK exs fn ts w K) : PySem.W.findIn K (.ref (He.ga K "NoBook")) "__class__" = some (some (.builtin "object.__class__")) := c.is 42 (f := q42)
theorem x_NoBook__5 (c : Hk.SaysK exs fn ts w K) : PySem.W.specialIn K (.builtin "object.__class__") "__get__" = some (some (.builtin "getset_descriptor.__get__")) := c.is 43 (f := q43)
theorem x_NoBook__6 (c : Hk.SaysK exs fn ts w K) : PySem.W.takesIn K (.builtin "object.__class__") = some true := c.is 44 (f := q44)
theorem x_NoBook__7 (c : Hk.SaysK exs fn ts w K) : PySem.W.mroIn K (He.ga K "NoBook") (.type "object") = some true := c.is 45 (f := q45)
theorem x_NoBook (c : Hk.SaysK exs fn ts w K) : ExcC K (He.ga K "NoBook") := ⟨x_NoBook__0 c, x_NoBook__1 c, x_NoBook__2 c, x_NoBook__3 c, x_NoBook__4 c, x_NoBook__5 c, x_NoBook__6 c, x_NoBook__7 c⟩
theorem i_Judge_bool (c : Hk.SaysK exs fn ts w K) : PySem.W.kitOne K (.ref (He.ga K "Judge")) (.type "bool") = some false := c.is 46 (f := q46)
theorem i_Judge_int (c : Hk.SaysK exs fn ts w K) : PySem.W.kitOne K (.ref (He.ga K "Judge")) (.type "int") = some false := c.is 47 (f := q47)
theorem i_Judge_list (c : Hk.SaysK exs fn ts w K) : PySem.W.kitOne K (.ref (He.ga K "Judge")) (.type "list") = some false := c.is 48 (f := q48)
theorem i_Judge_str (c : Hk.SaysK exs fn ts w K) : PySem.W.kitOne K (.ref (He.ga K "Judge")) (.type "str") = some false := c.is 49 (f := q49)
theorem i_Judge_tuple (c : Hk.SaysK exs fn ts w K) : PySem.W.kitOne K (.ref (He.ga K "Judge")) (.type "tuple") = some false := c.is 50 (f := q50)
theorem i_NoBook_bool (c : Hk.SaysK exs fn ts w K) : PySem.W.kitOne K (.ref (He.ga K "NoBook")) (.type "bool") = some false := c.is 51 (f := q51)
theorem i_NoBook_int (c : Hk.SaysK exs fn ts w K) : PySem.W.kitOne K (.ref (He.ga K "NoBook")) (.type "int") = some false := c.is 52 (f := q52)
theorem i_NoBook_list (c : Hk.SaysK exs fn ts w K) : PySem.W.kitOne K (.ref (He.ga K "NoBook")) (.type "list") = some false := c.is 53 (f := q53)
theorem i_NoBook_str (c : Hk.SaysK exs fn ts w K) : PySem.W.kitOne K (.ref (He.ga K "NoBook")) (.type "str") = some false := c.is 54 (f := q54)
theorem i_NoBook_tuple (c : Hk.SaysK exs fn ts w K) : PySem.W.kitOne K (.ref (He.ga K "NoBook")) (.type "tuple") = some false := c.is 55 (f := q55)
theorem kt_STANDS__0 (c : Hk.SaysK exs fn ts w K) : Hk.tplB K (He.ga K "STANDS") ([("calls" : Str), ("answers" : Str), ("open" : Str), ("ends" : Str), ("left" : Str), ("rests" : Str), ("closed" : Str), ("cut" : Str), ("gone" : Str)].map V.str) = true := c.fact 56 (f := q56)
theorem kt_STANDS (c : Hk.SaysK exs fn ts w K) : KTplS K (He.ga K "STANDS") [("calls" : Str), ("answers" : Str), ("open" : Str), ("ends" : Str), ("left" : Str), ("rests" : Str), ("closed" : Str), ("cut" : Str), ("gone" : Str)] := Hk.tplB_ok (kt_STANDS__0 c)
theorem a0 (c : Hk.SaysK exs fn ts w K) : PySem.W.nsIn K mainGlobals "_law_begun_book" = some (some (.ref (He.ga K "_law_begun_book"))) := c.is 57 (f := q57)
theorem F0 (c : Hk.SaysK exs fn ts w K) : ∃ fd, Fun K "_law_begun_book" "_law_begun_book" Kk.s_l_begun_book (He.ga K "_law_begun_book") fd := (c.def_ 0 (d := d0)).imp fun _ F => Hk.funOf F
theorem a1 (c : Hk.SaysK exs fn ts w K) : PySem.W.nsIn K mainGlobals "_law_digits" = some (some (.ref (He.ga K "_law_digits"))) := c.is 58 (f := q58)
theorem F1 (c : Hk.SaysK exs fn ts w K) : ∃ fd, Fun K "_law_digits" "_law_digits" Kk.s_l_digits (He.ga K "_law_digits") fd := (c.def_ 1 (d := d1)).imp fun _ F => Hk.funOf F
theorem a2 (c : Hk.SaysK exs fn ts w K) : PySem.W.nsIn K mainGlobals "_law_pairs" = some (some (.ref (He.ga K "_law_pairs"))) := c.is 59 (f := q59)
theorem F2 (c : Hk.SaysK exs fn ts w K) : ∃ fd, Fun K "_law_pairs" "_law_pairs" Kk.s_l_pairs (He.ga K "_law_pairs") fd := (c.def_ 2 (d := d2)).imp fun _ F => Hk.funOf F
theorem a3 (c : Hk.SaysK exs fn ts w K) : PySem.W.nsIn K mainGlobals "_law_book" = some (some (.ref (He.ga K "_law_book"))) := c.is 60 (f := q60)
theorem F3 (c : Hk.SaysK exs fn ts w K) : ∃ fd, Fun K "_law_book" "_law_book" Kk.s_l_book (He.ga K "_law_book") fd := (c.def_ 3 (d := d3)).imp fun _ F => Hk.funOf F
theorem a4 (c : Hk.SaysK exs fn ts w K) : PySem.W.nsIn K mainGlobals "_law_cells" = some (some (.ref (He.ga K "_law_cells"))) := c.is 61 (f := q61)
theorem F4 (c : Hk.SaysK exs fn ts w K) : ∃ fd, Fun K "_law_cells" "_law_cells" Kk.s_l_cells (He.ga K "_law_cells") fd := (c.def_ 4 (d := d4)).imp fun _ F => Hk.funOf F
theorem a5 (c : Hk.SaysK exs fn ts w K) : PySem.W.nsIn K mainGlobals "_law_bytes" = some (some (.ref (He.ga K "_law_bytes"))) := c.is 62 (f := q62)
theorem F5 (c : Hk.SaysK exs fn ts w K) : ∃ fd, Fun K "_law_bytes" "_law_bytes" Kk.s_l_bytes (He.ga K "_law_bytes") fd := (c.def_ 5 (d := d5)).imp fun _ F => Hk.funOf F
theorem a6 (c : Hk.SaysK exs fn ts w K) : PySem.W.nsIn K mainGlobals "_law_partner" = some (some (.ref (He.ga K "_law_partner"))) := c.is 63 (f := q63)
theorem F6 (c : Hk.SaysK exs fn ts w K) : ∃ fd, Fun K "_law_partner" "_law_partner" Kk.s_l_partner (He.ga K "_law_partner") fd := (c.def_ 6 (d := d6)).imp fun _ F => Hk.funOf F
theorem a7 (c : Hk.SaysK exs fn ts w K) : PySem.W.nsIn K mainGlobals "_law_line_right" = some (some (.ref (He.ga K "_law_line_right"))) := c.is 64 (f := q64)
theorem F7 (c : Hk.SaysK exs fn ts w K) : ∃ fd, Fun K "_law_line_right" "_law_line_right" Kk.s_l_line_right (He.ga K "_law_line_right") fd := (c.def_ 7 (d := d7)).imp fun _ F => Hk.funOf F
theorem a8 (c : Hk.SaysK exs fn ts w K) : PySem.W.nsIn K mainGlobals "_law_due" = some (some (.ref (He.ga K "_law_due"))) := c.is 65 (f := q65)
theorem F8 (c : Hk.SaysK exs fn ts w K) : ∃ fd, Fun K "_law_due" "_law_due" Kk.s_l_due (He.ga K "_law_due") fd := (c.def_ 8 (d := d8)).imp fun _ F => Hk.funOf F
theorem a9 (c : Hk.SaysK exs fn ts w K) : PySem.W.nsIn K mainGlobals "_law_paper" = some (some (.ref (He.ga K "_law_paper"))) := c.is 66 (f := q66)
theorem F9 (c : Hk.SaysK exs fn ts w K) : ∃ fd, Fun K "_law_paper" "_law_paper" Kk.s_l_paper (He.ga K "_law_paper") fd := (c.def_ 9 (d := d9)).imp fun _ F => Hk.funOf F
theorem a10 (c : Hk.SaysK exs fn ts w K) : PySem.W.nsIn K mainGlobals "_law_same" = some (some (.ref (He.ga K "_law_same"))) := c.is 67 (f := q67)
theorem F10 (c : Hk.SaysK exs fn ts w K) : ∃ fd, Fun K "_law_same" "_law_same" Kk.s_l_same (He.ga K "_law_same") fd := (c.def_ 10 (d := d10)).imp fun _ F => Hk.funOf F
theorem a11 (c : Hk.SaysK exs fn ts w K) : PySem.W.nsIn K mainGlobals "_law_spoilt" = some (some (.ref (He.ga K "_law_spoilt"))) := c.is 68 (f := q68)
theorem F11 (c : Hk.SaysK exs fn ts w K) : ∃ fd, Fun K "_law_spoilt" "_law_spoilt" Kk.s_l_spoilt (He.ga K "_law_spoilt") fd := (c.def_ 11 (d := d11)).imp fun _ F => Hk.funOf F
theorem a12 (c : Hk.SaysK exs fn ts w K) : PySem.W.findIn K (.ref (He.ga K "Judge")) "__init__" = some (some (.ref (He.ma K (He.ga K "Judge") "__init__"))) := c.is 69 (f := q69)
theorem i12 (c : Hk.SaysK exs fn ts w K) : PySem.W.isFn K (.ref (He.ma K (He.ga K "Judge") "__init__")) = true := c.fact 70 (f := q70)
theorem F12 (c : Hk.SaysK exs fn ts w K) : ∃ fd, Fun K "__init__" "Judge.__init__" Kk.s_Judge___init__ (He.ma K (He.ga K "Judge") "__init__") fd := (c.def_ 12 (d := d12)).imp fun _ F => Hk.funOf F
theorem a13 (c : Hk.SaysK exs fn ts w K) : PySem.W.nsIn K mainGlobals "partner_of" = some (some (.ref (He.ga K "partner_of"))) := c.is 71 (f := q71)
theorem F13 (c : Hk.SaysK exs fn ts w K) : ∃ fd, Fun K "partner_of" "partner_of" Kk.s_partner_of (He.ga K "partner_of") fd := (c.def_ 13 (d := d13)).imp fun _ F => Hk.funOf F
theorem a14 (c : Hk.SaysK exs fn ts w K) : PySem.W.findIn K (.ref (He.ga K "Judge")) "source_of" = some (some (.ref (He.ma K (He.ga K "Judge") "source_of"))) := c.is 72 (f := q72)
theorem i14 (c : Hk.SaysK exs fn ts w K) : PySem.W.isFn K (.ref (He.ma K (He.ga K "Judge") "source_of")) = true := c.fact 73 (f := q73)
theorem F14 (c : Hk.SaysK exs fn ts w K) : ∃ fd, Fun K "source_of" "Judge.source_of" Kk.s_Judge_source_of (He.ma K (He.ga K "Judge") "source_of") fd := (c.def_ 14 (d := d14)).imp fun _ F => Hk.funOf F
theorem a15 (c : Hk.SaysK exs fn ts w K) : PySem.W.findIn K (.ref (He.ga K "Judge")) "read_right" = some (some (.ref (He.ma K (He.ga K "Judge") "read_right"))) := c.is 74 (f := q74)
theorem i15 (c : Hk.SaysK exs fn ts w K) : PySem.W.isFn K (.ref (He.ma K (He.ga K "Judge") "read_right")) = true := c.fact 75 (f := q75)
theorem F15 (c : Hk.SaysK exs fn ts w K) : ∃ fd, Fun K "read_right" "Judge.read_right" Kk.s_Judge_read_right (He.ma K (He.ga K "Judge") "read_right") fd := (c.def_ 15 (d := d15)).imp fun _ F => Hk.funOf F
theorem a16 (c : Hk.SaysK exs fn ts w K) : PySem.W.nsIn K mainGlobals "talk_of" = some (some (.ref (He.ga K "talk_of"))) := c.is 76 (f := q76)
theorem F16 (c : Hk.SaysK exs fn ts w K) : ∃ fd, Fun K "talk_of" "talk_of" Kk.s_talk_of (He.ga K "talk_of") fd := (c.def_ 16 (d := d16)).imp fun _ F => Hk.funOf F
theorem a17 (c : Hk.SaysK exs fn ts w K) : PySem.W.findIn K (.ref (He.ga K "Judge")) "follow" = some (some (.ref (He.ma K (He.ga K "Judge") "follow"))) := c.is 77 (f := q77)
theorem i17 (c : Hk.SaysK exs fn ts w K) : PySem.W.isFn K (.ref (He.ma K (He.ga K "Judge") "follow")) = true := c.fact 78 (f := q78)
theorem F17 (c : Hk.SaysK exs fn ts w K) : ∃ fd, Fun K "follow" "Judge.follow" Kk.s_Judge_follow (He.ma K (He.ga K "Judge") "follow") fd := (c.def_ 17 (d := d17)).imp fun _ F => Hk.funOf F
theorem a18 (c : Hk.SaysK exs fn ts w K) : PySem.W.nsIn K mainGlobals "is_between" = some (some (.ref (He.ga K "is_between"))) := c.is 79 (f := q79)
theorem F18 (c : Hk.SaysK exs fn ts w K) : ∃ fd, Fun K "is_between" "is_between" Kk.s_is_between (He.ga K "is_between") fd := (c.def_ 18 (d := d18)).imp fun _ F => Hk.funOf F
theorem a19 (c : Hk.SaysK exs fn ts w K) : PySem.W.nsIn K mainGlobals "is_whole" = some (some (.ref (He.ga K "is_whole"))) := c.is 80 (f := q80)
theorem F19 (c : Hk.SaysK exs fn ts w K) : ∃ fd, Fun K "is_whole" "is_whole" Kk.s_is_whole (He.ga K "is_whole") fd := (c.def_ 19 (d := d19)).imp fun _ F => Hk.funOf F
theorem a20 (c : Hk.SaysK exs fn ts w K) : PySem.W.nsIn K mainGlobals "is_data" = some (some (.ref (He.ga K "is_data"))) := c.is 81 (f := q81)
theorem F20 (c : Hk.SaysK exs fn ts w K) : ∃ fd, Fun K "is_data" "is_data" Kk.s_is_data (He.ga K "is_data") fd := (c.def_ 20 (d := d20)).imp fun _ F => Hk.funOf F
theorem a21 (c : Hk.SaysK exs fn ts w K) : PySem.W.nsIn K mainGlobals "is_more" = some (some (.ref (He.ga K "is_more"))) := c.is 82 (f := q82)
theorem F21 (c : Hk.SaysK exs fn ts w K) : ∃ fd, Fun K "is_more" "is_more" Kk.s_is_more (He.ga K "is_more") fd := (c.def_ 21 (d := d21)).imp fun _ F => Hk.funOf F
theorem a22 (c : Hk.SaysK exs fn ts w K) : PySem.W.nsIn K mainGlobals "is_line" = some (some (.ref (He.ga K "is_line"))) := c.is 83 (f := q83)
theorem F22 (c : Hk.SaysK exs fn ts w K) : ∃ fd, Fun K "is_line" "is_line" Kk.s_is_line (He.ga K "is_line") fd := (c.def_ 22 (d := d22)).imp fun _ F => Hk.funOf F
theorem a23 (c : Hk.SaysK exs fn ts w K) : PySem.W.nsIn K mainGlobals "need_book" = some (some (.ref (He.ga K "need_book"))) := c.is 84 (f := q84)
theorem F23 (c : Hk.SaysK exs fn ts w K) : ∃ fd, Fun K "need_book" "need_book" Kk.s_need_book (He.ga K "need_book") fd := (c.def_ 23 (d := d23)).imp fun _ F => Hk.funOf F
theorem a24 (c : Hk.SaysK exs fn ts w K) : PySem.W.nsIn K mainGlobals "judged" = some (some (.ref (He.ga K "judged"))) := c.is 85 (f := q85)
theorem F24 (c : Hk.SaysK exs fn ts w K) : ∃ fd, Fun K "judged" "judged" Kk.s_judged (He.ga K "judged") fd := (c.def_ 24 (d := d24)).imp fun _ F => Hk.funOf F
theorem a25 (c : Hk.SaysK exs fn ts w K) : PySem.W.nsIn K mainGlobals "places_written" = some (some (.ref (He.ga K "places_written"))) := c.is 86 (f := q86)
theorem F25 (c : Hk.SaysK exs fn ts w K) : ∃ fd, Fun K "places_written" "places_written" Kk.s_places_written (He.ga K "places_written") fd := (c.def_ 25 (d := d25)).imp fun _ F => Hk.funOf F
theorem a26 (c : Hk.SaysK exs fn ts w K) : PySem.W.nsIn K mainGlobals "paper_of" = some (some (.ref (He.ga K "paper_of"))) := c.is 87 (f := q87)
theorem F26 (c : Hk.SaysK exs fn ts w K) : ∃ fd, Fun K "paper_of" "paper_of" Kk.s_paper_of (He.ga K "paper_of") fd := (c.def_ 26 (d := d26)).imp fun _ F => Hk.funOf F
theorem a27 (c : Hk.SaysK exs fn ts w K) : PySem.W.nsIn K mainGlobals "is_pair" = some (some (.ref (He.ga K "is_pair"))) := c.is 88 (f := q88)
theorem F27 (c : Hk.SaysK exs fn ts w K) : ∃ fd, Fun K "is_pair" "is_pair" Kk.s_is_pair (He.ga K "is_pair") fd := (c.def_ 27 (d := d27)).imp fun _ F => Hk.funOf F
theorem a28 (c : Hk.SaysK exs fn ts w K) : PySem.W.nsIn K mainGlobals "is_formed" = some (some (.ref (He.ga K "is_formed"))) := c.is 89 (f := q89)
theorem F28 (c : Hk.SaysK exs fn ts w K) : ∃ fd, Fun K "is_formed" "is_formed" Kk.s_is_formed (He.ga K "is_formed") fd := (c.def_ 28 (d := d28)).imp fun _ F => Hk.funOf F
theorem a29 (c : Hk.SaysK exs fn ts w K) : PySem.W.nsIn K mainGlobals "shows" = some (some (.ref (He.ga K "shows"))) := c.is 90 (f := q90)
theorem F29 (c : Hk.SaysK exs fn ts w K) : ∃ fd, Fun K "shows" "shows" Kk.s_shows (He.ga K "shows") fd := (c.def_ 29 (d := d29)).imp fun _ F => Hk.funOf F
theorem a30 (c : Hk.SaysK exs fn ts w K) : PySem.W.nsIn K mainGlobals "law" = some (some (.ref (He.ga K "law"))) := c.is 91 (f := q91)
theorem F30 (c : Hk.SaysK exs fn ts w K) : ∃ fd, Fun K "law" "law" Kk.s_law (He.ga K "law") fd := (c.def_ 30 (d := d30)).imp fun _ F => Hk.funOf F
end
end Hx
namespace Kk
open PySem L2 SM
def os_ : List String := ["Judge"]
def xs_ : List String := ["NoBook"]
def tb_ : List (String × String × Bool) := [("Judge", "bool", false), ("Judge", "int", false), ("Judge", "list", false), ("Judge", "str", false), ("Judge", "tuple", false), ("NoBook", "bool", false), ("NoBook", "int", false), ("NoBook", "list", false), ("NoBook", "str", false), ("NoBook", "tuple", false)]
/- slots of _law_begun_book: 0=_law_number 1=_law_pairs_here 2=_law_found 3=_law_k 4=_law_one 5=_law_other 6=_law_kind 7=_law_lines -/
noncomputable def F_l_begun_book : Fn := mkFn 2 8
  (sSeq (sSet 2 (eLst aNil)) (sSeq (sFor (wOf wkEA (eVar 1)) (gT [(gN 3), (gT [(gN 4), (gN 5)])]) (sSeq (sSet 6 (eOp oMod (eOp oDiv (eVar 0) (eOp oIx (eLst (aCons (eC (.int 1)) (aCons (eC (.int 12)) (aCons (eC (.int 144)) aNil)))) (eVar 3))) (eC (.int 12)))) (sSeq (sSet 7 (eLst (aCons (eOp oAdd (eOp oAdd (eTup (aCons (eC (dS "opened")) (aCons (eC (.int 0)) aNil))) (eVar 4)) (eTup (aCons (eOp oIx (eVar 5) (eC (.int 2))) aNil))) (aCons (eOp oAdd (eOp oAdd (eTup (aCons (eC (dS "opened")) (aCons (eC (.int 0)) aNil))) (eVar 5)) (eTup (aCons (eOp oIx (eVar 4) (eC (.int 2))) aNil))) aNil)))) (sSeq (sIf (tOf (eOp oEq (eVar 6) (eC (.int 1)))) (sSet 7 (eSl oSl (eVar 7) oNo (oSo (eC (.int 1))))) (sIf (tOf (eOp oEq (eVar 6) (eC (.int 2)))) (sSet 7 (eLst (aCons (eOp oAdd (eOp oAdd (eTup (aCons (eC (dS "opened")) (aCons (eC (.int 0)) aNil))) (eVar 4)) (eTup (aCons (eOp oAdd (eOp oIx (eVar 5) (eC (.int 2))) (eC (.int 1))) aNil))) (aCons (eOp oIx (eVar 7) (eC (.int 1))) aNil)))) (sIf (tOf (eOp oEq (eVar 6) (eC (.int 3)))) (sSet 7 (eLst aNil)) (sIf (tOf (eOp oEq (eOp oMod (eVar 6) (eC (.int 2))) (eC (.int 1)))) (sSet 7 (eUn oRev (eVar 7))) sNx)))) (sSet 2 (eOp oAdd (eVar 2) (eVar 7))))))) (sRet (eVar 2))))
/- slots of _law_digits: 0=_law_cell 1=_law_sizes 2=_law_found 3=_law_size -/
noncomputable def F_l_digits : Fn := mkFn 2 4
  (sSeq (sSet 2 (eLst aNil)) (sSeq (sFor (wSeq (eVar 1)) (gN 3) (sSeq (sDrop (eBL oAppend (eVar 2) (aCons (eOp oMod (eVar 0) (eVar 3)) aNil))) (sSet 0 (eOp oDiv (eVar 0) (eVar 3))))) (sRet (eVar 2))))
/- slots of _law_pairs: 0=_law_cell 1=_law_some 2=_law_found 3=_law_k 4=_law_places 5=_law_ports 6=_law_firsts 7=_law_one 8=_law_other 9=_law_more -/
noncomputable def F_l_pairs : Fn := mkFn 1 10
  (sSeq (sSet 1 (eCall F_l_digits (aCons (eVar 0) (aCons (eLst (aCons (eC (.int 3)) (aCons (eC (.int 5)) (aCons (eC (.int 4)) (aCons (eC (.int 7)) (aCons (eC (.int 6)) (aCons (eC (.int 5)) aNil))))))) aNil)))) (sSeq (sSet 2 (eLst aNil)) (sSeq (sFor (wAs rg1 (aCons (eC (.int 3)) aNil)) (gN 3) (sSeq (sSet 4 (eOp oIx (eLst (aCons (eLst (aCons (eC (.int 0)) (aCons (eC (.int 1)) aNil))) (aCons (eLst (aCons (eC (.int 1)) (aCons (eC (.int 0)) aNil))) (aCons (eLst (aCons (eC (.int 0)) (aCons (eC (.int 2)) aNil))) aNil)))) (eOp oMod (eOp oAdd (eOp oIx (eVar 1) (eC (.int 0))) (eVar 3)) (eC (.int 3))))) (sSeq (sSet 5 (eLst (aCons (eOp oAdd (eC (.int 7)) (eOp oMul (eOp oIx (eVar 1) (eC (.int 1))) (eOp oMod (eVar 3) (eC (.int 2))))) (aCons (eOp oAdd (eOp oAdd (eC (.int 128)) (eOp oIx (eVar 1) (eC (.int 2)))) (eOp oMul (eC (.int 3)) (eVar 3))) aNil)))) (sSeq (sSet 6 (eLst (aCons (eOp oAdd (eOp oMul (eOp oIx (eVar 1) (eC (.int 3))) (eC (.int 100))) (eOp oMul (eVar 3) (eOp oIx (eLst (aCons (eC (.int 0)) (aCons (eC (.int 1)) (aCons (eC (.int 50)) aNil)))) (eOp oMod (eOp oIx (eVar 1) (eC (.int 4))) (eC (.int 3)))))) (aCons (eOp oAdd (eOp oIx (eLst (aCons (eC (.int 0)) (aCons (eC (.int 9)) (aCons (eC (.int 4294967290)) (aCons (eC (.int 3)) aNil))))) (eOp oMod (eOp oIx (eVar 1) (eC (.int 5))) (eC (.int 4)))) (eOp oMul (eC (.int 2)) (eVar 3))) aNil)))) (sSeq (sSet 7 (eTup (aCons (eOp oIx (eVar 4) (eC (.int 0))) (aCons (eTup (aCons (eOp oIx (eVar 4) (eC (.int 1))) (aCons (eOp oIx (eVar 5) (eC (.int 0))) (aCons (eOp oIx (eVar 5) (eC (.int 1))) aNil)))) (aCons (eOp oIx (eVar 6) (eC (.int 0))) aNil))))) (sDrop (eBL oAppend (eVar 2) (aCons (eTup (aCons (eVar 7) (aCons (eTup (aCons (eOp oIx (eVar 4) (eC (.int 1))) (aCons (eTup (aCons (eOp oIx (eVar 4) (eC (.int 0))) (aCons (eOp oIx (eVar 5) (eC (.int 1))) (aCons (eOp oIx (eVar 5) (eC (.int 0))) aNil)))) (aCons (eOp oIx (eVar 6) (eC (.int 1))) aNil)))) aNil))) aNil)))))))) (sSeq (sIf (tOf (eOp oGt (eOp oMod (eOp oDiv (eVar 0) (eC (.int 12600))) (eC (.int 3))) (eC (.int 0)))) (sSeq (sAsg (eOp oIx (eVar 2) (eC (.int 0))) (gT [(gN 7), (gN 8)])) (sSeq (sSet 9 (eOp oIx (eLst (aCons (eLst (aCons (eC (.int 9)) (aCons (eC (.int 9)) aNil))) (aCons (eLst (aCons (eC (.int 9)) (aCons (eC (.int 0)) aNil))) (aCons (eLst (aCons (eC (.int 0)) (aCons (eC (.int 9)) aNil))) (aCons (eLst (aCons (eC (.int 1)) (aCons (eC (.int 1)) aNil))) aNil))))) (eOp oMod (eOp oDiv (eVar 0) (eC (.int 37800))) (eC (.int 4))))) (sPut (eVar 2) (eC (.int 2)) (eTup (aCons (eOp oAdd (eSl oSl (eVar 7) oNo (oSo (eC (.int 2)))) (eTup (aCons (eOp oAdd (eOp oIx (eVar 7) (eC (.int 2))) (eOp oIx (eVar 9) (eC (.int 0)))) aNil))) (aCons (eOp oAdd (eSl oSl (eVar 8) oNo (oSo (eC (.int 2)))) (eTup (aCons (eOp oAdd (eOp oDiv (eOp oIx (eVar 8) (eC (.int 2))) (eC (.int 2))) (eOp oIx (eVar 9) (eC (.int 1)))) aNil))) aNil)))))) sNx) (sRet (eVar 2))))))
/- slots of _law_book: 0=_law_cells_here 1=_law_pairs_here 2=_law_written 3=_law_had 4=_law_book_here 5=_law_tick 6=_law_cell 7=_law_sort 8=_law_which 9=_law_side 10=_law_later 11=_law_many 12=_law_odd 13=_law_byte 14=_law_talk 15=_law_other 16=_law_more 17=_law_data 18=_law_k 19=_law_later_written 20=_law_one -/
noncomputable def F_l_book : Fn := mkFn 1 21
  (sSeq (sSet 1 (eCall F_l_pairs (aCons (eOp oIx (eOp oAdd (eVar 0) (eLst (aCons (eC (.int 0)) aNil))) (eC (.int 0))) aNil))) (sSeq (sSet 2 eNNew) (sSeq (sSet 3 eNNew) (sSeq (sSet 4 (eCall F_l_begun_book (aCons (eOp oDiv (eOp oIx (eOp oAdd (eVar 0) (eLst (aCons (eC (.int 0)) aNil))) (eC (.int 0))) (eC (.int 151200))) (aCons (eVar 1) aNil)))) (sSeq (sSet 5 (eC (.int 0))) (sSeq (sFor (wSeq (eSl oSl (eVar 0) (oSo (eC (.int 1))) oNo)) (gN 6) (sSeq (sAsg (eCall F_l_digits (aCons (eVar 6) (aCons (eLst (aCons (eC (.int 24)) (aCons (eC (.int 3)) (aCons (eC (.int 2)) (aCons (eC (.int 2)) (aCons (eC (.int 4)) (aCons (eC (.int 6)) (aCons (eC (.int 256)) aNil)))))))) aNil))) (gL [(gN 7), (gN 8), (gN 9), (gN 10), (gN 11), (gN 12), (gN 13)])) (sSeq (sSet 14 (eOp oIx (eOp oIx (eVar 1) (eVar 8)) (eVar 9))) (sSeq (sSet 15 (eOp oIx (eOp oIx (eVar 1) (eVar 8)) (eOp oSub (eC (.int 1)) (eVar 9)))) (sSeq (sSet 5 (eOp oAdd (eVar 5) (eVar 10))) (sIf (tOf (eOp oEq (eVar 7) (eC (.int 0)))) (sSeq (sSet 16 (eOp oIx (eLst (aCons (eOp oIx (eVar 15) (eC (.int 2))) (aCons (eOp oIx (eVar 15) (eC (.int 2))) (aCons (eOp oIx (eVar 15) (eC (.int 2))) (aCons (eOp oAdd (eOp oIx (eVar 15) (eC (.int 2))) (eC (.int 1))) (aCons (eOp oIx (eVar 14) (eC (.int 2))) (aCons (eOp oIx (eVar 15) (eC (.int 2))) aNil))))))) (eVar 12))) (sDrop (eBL oAppend (eVar 4) (aCons (eOp oAdd (eOp oAdd (eTup (aCons (eC (dS "opened")) (aCons (eVar 5) aNil))) (eVar 14)) (eTup (aCons (eVar 16) aNil))) aNil)))) (sIf (tOf (eOp oLt (eVar 7) (eC (.int 9)))) (sSeq (sSet 17 (eCB (c1 oTuple) (aCons (eLc (wAs rg1 (aCons (eOp oAdd (eC (.int 1)) (eVar 11)) aNil)) (gN 18) tYe (eOp oMod (eOp oAdd (eVar 13) (eOp oMul (eC (.int 37)) (eVar 18))) (eC (.int 256))) [18]) aNil))) (sSeq (sNPutF (eVar 2) (eVar 14) (eOp oAdd (eNGet2 (eVar 2) (eVar 14) (eTup aNil)) (eVar 17))) (sDrop (eBL oAppend (eVar 4) (aCons (eOp oAdd (eOp oAdd (eTup (aCons (eC (dS "wrote")) (aCons (eVar 5) aNil))) (eVar 14)) (eTup (aCons (eVar 17) aNil))) aNil))))) (sIf (tOf (eOp oLt (eVar 7) (eC (.int 22)))) (sSeq (sSet 17 (eSl oSl (eSl oSl (eNGet2 (eVar 2) (eVar 15) (eTup aNil)) (oSo (eNGet2 (eVar 3) (eVar 14) (eC (.int 0)))) oNo) oNo (oSo (eOp oAdd (eC (.int 1)) (eVar 11))))) (sSeq (sSet 19 (eTup aNil)) (sSeq (sIf (tAn (tOf (eOp oEq (eVar 7) (eC (.int 21)))) (tOf (eOp oLt (eVar 12) (eC (.int 2))))) (sSeq (sSet 19 (eTup (aCons (eVar 13) (aCons (eVar 12) aNil)))) (sSet 17 (eOp oAdd (eSl oSl (eNGet2 (eVar 2) (eVar 15) (eTup aNil)) (oSo (eNGet2 (eVar 3) (eVar 14) (eC (.int 0)))) oNo) (eVar 19)))) (sIf (tOf (eOp oEq (eVar 7) (eC (.int 21)))) (sSet 17 (eIf (tOf (eOp oEq (eVar 12) (eC (.int 2)))) (eOp oAdd (eVar 17) (eTup (aCons (eVar 13) aNil))) (eCB (c1 oTuple) (aCons (eLc (wSeq (eVar 17)) (gN 20) tYe (eOp oMod (eOp oAdd (eVar 20) (eVar 12)) (eC (.int 256))) [20]) aNil)))) sNx)) (sSeq (sIf (tOf (eOp oNe (eVar 17) (eTup aNil))) (sSeq (sNPutF (eVar 3) (eVar 14) (eOp oAdd (eNGet2 (eVar 3) (eVar 14) (eC (.int 0))) (eCB (c1 oLen) (aCons (eVar 17) aNil)))) (sDrop (eBL oAppend (eVar 4) (aCons (eOp oAdd (eOp oAdd (eTup (aCons (eC (dS "read")) (aCons (eVar 5) aNil))) (eVar 14)) (eTup (aCons (eVar 17) aNil))) aNil)))) sNx) (sIf (tOf (eOp oNe (eVar 19) (eTup aNil))) (sSeq (sNPutF (eVar 2) (eVar 15) (eOp oAdd (eNGet2 (eVar 2) (eVar 15) (eTup aNil)) (eVar 19))) (sDrop (eBL oAppend (eVar 4) (aCons (eOp oAdd (eOp oAdd (eTup (aCons (eC (dS "wrote")) (aCons (eVar 5) aNil))) (eVar 15)) (eTup (aCons (eVar 19) aNil))) aNil)))) sNx))))) (sDrop (eBL oAppend (eVar 4) (aCons (eOp oAdd (eOp oAdd (eTup (aCons (eC (dS "stands")) (aCons (eVar 5) aNil))) (eVar 14)) (eTup (aCons (eOp oIx (eLst (aCons (eC (dS "open")) (aCons (eC (dS "cut")) (aCons (eC (dS "rests")) (aCons (eC (dS "gone")) (aCons (eC (dS "answers")) (aCons (eC (dS "calls")) aNil))))))) (eVar 12)) aNil))) aNil))))))))))) (sRet (eVar 4))))))))
/- slots of _law_cells: 0=_law_script 1=_law_found 2=_law_k 3=_law_cell 4=_law_one 5=_law_mixed 6=_law_number -/
noncomputable def F_l_cells : Fn := mkFn 1 7
  (sSeq (sSet 1 (eLst aNil)) (sSeq (sFor (wOf wkEA (eSl oSl (eVar 0) oNo (oSo (eC (.int 63))))) (gT [(gN 2), (gN 3)]) (sSeq (sSet 4 (eOp oMod (eOp oAdd (eOp oAdd (eOp oMul (eVar 3) (eC (.int 48271))) (eOp oMul (eC (.int 7919)) (eVar 2))) (eC (.int 11))) (eC (.int 2147483647)))) (sSeq (sSet 5 (eOp oDiv (eOp oMod (eOp oMul (eOp oMod (eOp oMul (eVar 4) (eVar 4)) (eC (.int 2147483629))) (eC (.int 69621))) (eC (.int 2147483587))) (eC (.int 7)))) (sSeq (sSet 6 (eOp oDiv (eVar 3) (eC (.int 2)))) (sSeq (sIf (tOf (eOp oEq (eOp oMod (eOp oIx (eVar 0) (eC (.int 0))) (eC (.int 2))) (eC (.int 1)))) (sSet 6 (eVar 5)) (sIf (tOf (eCh oLt oLt (eUn oNeg (eC (.int 1000))) (eVar 6) (eC (.int 1000)))) (sSet 6 (eOp oAdd (eOp oMod (eVar 6) (eC (.int 1000))) (eOp oMul (eC (.int 1000)) (eVar 5)))) sNx)) (sDrop (eBL oAppend (eVar 1) (aCons (eVar 6) aNil)))))))) (sRet (eVar 1))))
/- slots of _law_bytes: 0=_law_book_here 1=_law_word 2=_law_talk 3=_law_found 4=_law_line -/
noncomputable def F_l_bytes : Fn := mkFn 3 5
  (sSeq (sSet 3 (eTup aNil)) (sSeq (sFor (wSeq (eVar 0)) (gN 4) (sIf (tAn (tOf (eOp oEq (eOp oIx (eVar 4) (eC (.int 0))) (eVar 1))) (tOf (eOp oEq (eSl oSl (eVar 4) (oSo (eC (.int 2))) (oSo (eC (.int 5)))) (eVar 2)))) (sSet 3 (eOp oAdd (eVar 3) (eOp oIx (eVar 4) (eC (.int 5))))) sNx)) (sRet (eVar 3))))
/- slots of _law_partner: 0=_law_line 1=_law_word 2=_law_tick 3=_law_place 4=_law_key 5=_law_first 6=_law_other -/
noncomputable def F_l_partner : Fn := mkFn 1 7
  (sSeq (sAsg (eVar 0) (gT [(gN 1), (gN 2), (gN 3), (gN 4), (gN 5), (gN 6)])) (sRet (eTup (aCons (eOp oIx (eVar 4) (eC (.int 0))) (aCons (eTup (aCons (eVar 3) (aCons (eOp oIx (eVar 4) (eC (.int 2))) (aCons (eOp oIx (eVar 4) (eC (.int 1))) aNil)))) (aCons (eVar 6) (aCons (eVar 5) aNil)))))))
/- slots of _law_line_right: 0=_law_book_here 1=_law_number 2=_law_line 3=_law_ahead 4=_law_one 5=_law_own 6=_law_talk 7=_law_had -/
noncomputable def F_l_line_right : Fn := mkFn 2 8
  (sSeq (sSet 2 (eOp oIx (eVar 0) (eVar 1))) (sSeq (sSet 3 (eLc (wSeq (eSl oSl (eVar 0) oNo (oSo (eVar 1)))) (gN 4) (tOf (eOp oEq (eOp oIx (eVar 4) (eC (.int 0))) (eC (dS "opened")))) (eVar 4) [4])) (sSeq (sSet 5 (eLc (wSeq (eVar 3)) (gN 4) (tOf (eOp oEq (eSl oSl (eVar 4) (oSo (eC (.int 2))) (oSo (eC (.int 5)))) (eSl oSl (eVar 2) (oSo (eC (.int 2))) (oSo (eC (.int 5)))))) (eVar 4) [4])) (sSeq (sIf (tOf (eOp oEq (eOp oIx (eVar 2) (eC (.int 0))) (eC (dS "opened")))) (sRet (eOp oEq (eVar 5) (eLst aNil))) sNx) (sSeq (sIf (tOf (eOp oNe (eOp oIx (eVar 2) (eC (.int 0))) (eC (dS "read")))) (sRet (eC (.bl true))) sNx) (sSeq (sIf (tOo (tOf (eOp oEq (eVar 5) (eLst aNil))) (tOf (eOp oNotIn (eCall F_l_partner (aCons (eOp oIx (eVar 5) (eC (.int 0))) aNil)) (eLc (wSeq (eVar 3)) (gN 4) tYe (eSl oSl (eVar 4) (oSo (eC (.int 2))) oNo) [4])))) (sRet (eC (.bl false))) sNx) (sSeq (sSet 6 (eSl oSl (eCall F_l_partner (aCons (eOp oIx (eVar 5) (eC (.int 0))) aNil)) oNo (oSo (eC (.int 3))))) (sSeq (sSet 7 (eCall F_l_bytes (aCons (eSl oSl (eVar 0) oNo (oSo (eOp oAdd (eVar 1) (eC (.int 1))))) (aCons (eC (dS "read")) (aCons (eSl oSl (eVar 2) (oSo (eC (.int 2))) (oSo (eC (.int 5)))) aNil))))) (sRet (eOp oEq (eSl oSl (eCall F_l_bytes (aCons (eSl oSl (eVar 0) oNo (oSo (eVar 1))) (aCons (eC (dS "wrote")) (aCons (eVar 6) aNil)))) oNo (oSo (eCB (c1 oLen) (aCons (eVar 7) aNil)))) (eVar 7)))))))))))
/- slots of _law_due: 0=_law_book_here 1=_law_wrong 2=_law_number -/
noncomputable def F_l_due : Fn := mkFn 1 3
  (sSeq (sSet 1 (eLc (wAs rg1 (aCons (eCB (c1 oLen) (aCons (eVar 0) aNil)) aNil)) (gN 2) (tNo (tOf (eCall0 F_l_line_right (aCons (eVar 0) (aCons (eVar 2) aNil))))) (eVar 2) [2])) (sRet (eOp oIx (eOp oAdd (eVar 1) (eLst (aCons (eC .non) aNil))) (eC (.int 0)))))
/- slots of _law_paper: 0=_law_book_here 1=_law_found 2=_law_number 3=_law_line 4=_law_own 5=_law_one 6=_law_talk 7=_law_some 8=_law_k 9=_law_place 10=_law_had -/
noncomputable def F_l_paper : Fn := mkFn 1 11
  (sSeq (sSet 1 (eLst aNil)) (sSeq (sFor (wOf wkEA (eVar 0)) (gT [(gN 2), (gN 3)]) (sSeq (sIf (tOf (eOp oNe (eOp oIx (eVar 3) (eC (.int 0))) (eC (dS "read")))) sCt sNx) (sSeq (sSet 4 (eOp oIx (eLc (wSeq (eSl oSl (eVar 0) oNo (oSo (eVar 2)))) (gN 5) (tAn (tOf (eOp oEq (eOp oIx (eVar 5) (eC (.int 0))) (eC (dS "opened")))) (tOf (eOp oEq (eSl oSl (eVar 5) (oSo (eC (.int 2))) (oSo (eC (.int 5)))) (eSl oSl (eVar 3) (oSo (eC (.int 2))) (oSo (eC (.int 5))))))) (eVar 5) [5]) (eC (.int 0)))) (sSeq (sSet 6 (eSl oSl (eCall F_l_partner (aCons (eVar 4) aNil)) oNo (oSo (eC (.int 3))))) (sSeq (sSet 7 (eLst aNil)) (sSeq (sFor (wOf wkEA (eSl oSl (eVar 0) oNo (oSo (eVar 2)))) (gT [(gN 8), (gN 5)]) (sIf (tAn (tOf (eOp oEq (eOp oIx (eVar 5) (eC (.int 0))) (eC (dS "wrote")))) (tOf (eOp oEq (eSl oSl (eVar 5) (oSo (eC (.int 2))) (oSo (eC (.int 5)))) (eVar 6)))) (sSet 7 (eOp oAdd (eVar 7) (eLc (wAs rg1 (aCons (eCB (c1 oLen) (aCons (eOp oIx (eVar 5) (eC (.int 5))) aNil)) aNil)) (gN 9) tYe (eTup (aCons (eVar 8) (aCons (eVar 9) aNil))) [9]))) sNx)) (sSeq (sSet 10 (eCB (c1 oLen) (aCons (eCall F_l_bytes (aCons (eSl oSl (eVar 0) oNo (oSo (eVar 2))) (aCons (eC (dS "read")) (aCons (eSl oSl (eVar 3) (oSo (eC (.int 2))) (oSo (eC (.int 5)))) aNil)))) aNil))) (sDrop (eBL oAppend (eVar 1) (aCons (eSl oSl (eVar 7) (oSo (eVar 10)) (oSo (eOp oAdd (eVar 10) (eCB (c1 oLen) (aCons (eOp oIx (eVar 3) (eC (.int 5))) aNil))))) aNil)))))))))) (sRet (eVar 1))))
/- slots of _law_same: 0=_law_thing 1=_law_paper_here -/
noncomputable def F_l_same : Fn := mkFn 2 2
  (sRet (eAnd (eOp oEqX (eVar 0) (eVar 1)) (eOp oEq (eCB (c1 oRepr) (aCons (eVar 0) aNil)) (eCB (c1 oRepr) (aCons (eVar 1) aNil)))))
/- slots of _law_spoilt: 0=_law_paper_here 1=_law_cell 2=_law_kind 3=_law_at 4=_law_place 5=_law_row 6=_law_line 7=_law_there 8=_law_others -/
noncomputable def F_l_spoilt : Fn := mkFn 2 9
  (sSeq (sAsg (eCall F_l_digits (aCons (eVar 1) (aCons (eLst (aCons (eC (.int 11)) (aCons (eCB (c2 oMax2) (aCons (eC (.int 1)) (aCons (eCB (c1 oLen) (aCons (eVar 0) aNil)) aNil))) (aCons (eC (.int 5)) aNil)))) aNil))) (gL [(gN 2), (gN 3), (gN 4)])) (sSeq (sIf (tOo (tOf (eOp oEq (eVar 2) (eC (.int 0)))) (tOf (eOp oEq (eVar 0) (eLst aNil)))) (sRet (eOp oIx (eLst (aCons (eC .non) (aCons (eTup aNil) (aCons (eDNew false) (aCons (eC (dS "right")) (aCons (eC (.int 7)) (aCons (eLst (aCons (eLst aNil) aNil)) (aCons (eLst (aCons (eC .non) aNil)) (aCons (eLst (aCons (eVar 0) aNil)) aNil))))))))) (eOp oMod (eOp oDiv (eVar 1) (eC (.int 50))) (eC (.int 8))))) sNx) (sSeq (sSet 5 (eOp oIx (eVar 0) (eVar 3))) (sSeq (sSet 4 (eOp oMod (eVar 4) (eCB (c1 oLen) (aCons (eVar 5) aNil)))) (sSeq (sAsg (eOp oIx (eVar 5) (eVar 4)) (gT [(gN 6), (gN 7)])) (sSeq (sSet 8 (eLst (aCons (eTup (aCons (eOp oAdd (eVar 6) (eC (.int 1))) (aCons (eVar 7) aNil))) (aCons (eTup (aCons (eVar 6) (aCons (eOp oAdd (eVar 7) (eC (.int 1))) aNil))) (aCons (eTup (aCons (eVar 6) (aCons (eVar 7) (aCons (eC (.int 0)) aNil)))) (aCons (eLst (aCons (eVar 6) (aCons (eVar 7) aNil))) (aCons (eTup (aCons (eVar 6) (aCons (eC .non) aNil))) (aCons (eTup (aCons (eC (dS "0")) (aCons (eVar 7) aNil))) aNil)))))))) (sSeq (sIf (tOf (eOp oLt (eVar 2) (eC (.int 7)))) (sSet 5 (eOp oAdd (eOp oAdd (eSl oSl (eVar 5) oNo (oSo (eVar 4))) (eLst (aCons (eOp oIx (eVar 8) (eOp oSub (eVar 2) (eC (.int 1)))) aNil))) (eSl oSl (eVar 5) (oSo (eOp oAdd (eVar 4) (eC (.int 1)))) oNo))) (sIf (tOf (eOp oEq (eVar 2) (eC (.int 7)))) (sSet 5 (eOp oAdd (eSl oSl (eVar 5) oNo (oSo (eVar 4))) (eSl oSl (eVar 5) (oSo (eOp oAdd (eVar 4) (eC (.int 1)))) oNo))) (sIf (tOf (eOp oEq (eVar 2) (eC (.int 8)))) (sSet 5 (eCB (c1 oTuple) (aCons (eVar 5) aNil))) (sIf (tOf (eOp oEq (eVar 2) (eC (.int 9)))) (sSet 5 (eOp oAdd (eVar 5) (eSl oSl (eVar 5) (oSo (eVar 4)) (oSo (eOp oAdd (eVar 4) (eC (.int 1))))))) (sSet 5 (eOp oAdd (eOp oAdd (eSl oSl (eVar 5) oNo (oSo (eVar 4))) (eLst (aCons (eTup (aCons (eIf (tOf (eOp oGt (eVar 6) (eC (.int 1)))) (eVar 6) (eOp oEq (eVar 6) (eC (.int 1)))) (aCons (eIf (tOf (eOp oGt (eVar 7) (eC (.int 1)))) (eVar 7) (eOp oEq (eVar 7) (eC (.int 1)))) aNil))) aNil))) (eSl oSl (eVar 5) (oSo (eOp oAdd (eVar 4) (eC (.int 1)))) oNo))))))) (sRet (eOp oAdd (eOp oAdd (eSl oSl (eVar 0) oNo (oSo (eVar 3))) (eLst (aCons (eVar 5) aNil))) (eSl oSl (eVar 0) (oSo (eOp oAdd (eVar 3) (eC (.int 1)))) oNo))))))))))
/- slots of Judge.__init__: 0=self -/
noncomputable def F_Judge___init__ : Fn := mkFn 1 1
  (sSeq (sFl ["Judge"] "openings" (eVar 0) eNNew) (sSeq (sFl ["Judge"] "written" (eVar 0) eNNew) (sFl ["Judge"] "had" (eVar 0) eNNew)))
/- slots of partner_of: 0=talk 1=other 2=place 3=key 4=first -/
noncomputable def F_partner_of : Fn := mkFn 2 5
  (sSeq (sAsg (eVar 0) (gT [(gN 2), (gN 3), (gN 4)])) (sRet (eTup (aCons (eOp oIx (eVar 3) (eC (.int 0))) (aCons (eTup (aCons (eVar 2) (aCons (eOp oIx (eVar 3) (eC (.int 2))) (aCons (eOp oIx (eVar 3) (eC (.int 1))) aNil)))) (aCons (eVar 1) aNil))))))
/- slots of Judge.source_of: 0=self 1=talk 2=partner -/
noncomputable def F_Judge_source_of : Fn := mkFn 2 3
  (sSeq (sIf (tOf (eOp (oNIn true) (eVar 1) (eFld ["Judge"] "openings" (eVar 0)))) (sRet (eC .non)) sNx) (sSeq (sSet 2 (eCall F_partner_of (aCons (eVar 1) (aCons (eOp oNGet (eFld ["Judge"] "openings" (eVar 0)) (eVar 1)) aNil)))) (sSeq (sIf (tOf (eOp oNe (eNGet1 (eFld ["Judge"] "openings" (eVar 0)) (eVar 2)) (eOp oIx (eVar 1) (eC (.int 2))))) (sRet (eC .non)) sNx) (sRet (eVar 2)))))
/- slots of Judge.read_right: 0=self 1=talk 2=data 3=source 4=had -/
noncomputable def F_Judge_read_right : Fn := mkFn 3 5
  (sSeq (sSet 3 (eMeth "source_of" [("Judge", F_Judge_source_of)] (eVar 0) (aCons (eVar 1) aNil))) (sSeq (sIf (tOf (eOp oIs (eVar 3) (eC .non))) (sRet (eC (.bl false))) sNx) (sSeq (sSet 4 (eOp oAdd (eNGet2 (eFld ["Judge"] "had" (eVar 0)) (eVar 1) (eTup aNil)) (eVar 2))) (sSeq (sNPutF (eFld ["Judge"] "had" (eVar 0)) (eVar 1) (eVar 4)) (sRet (eOp oEq (eSl oSl (eNGet2 (eFld ["Judge"] "written" (eVar 0)) (eVar 3) (eTup aNil)) oNo (oSo (eCB (c1 oLen) (aCons (eVar 4) aNil)))) (eVar 4)))))))
/- slots of talk_of: 0=line -/
noncomputable def F_talk_of : Fn := mkFn 1 1
  (sRet (eTup (aCons (eOp oIx (eVar 0) (eC (.int 2))) (aCons (eOp oIx (eVar 0) (eC (.int 3))) (aCons (eOp oIx (eVar 0) (eC (.int 4))) aNil)))))
/- slots of Judge.follow: 0=self 1=line 2=talk 3=twice -/
noncomputable def F_Judge_follow : Fn := mkFn 2 4
  (sSeq (sSet 2 (eCall F_talk_of (aCons (eVar 1) aNil))) (sSeq (sIf (tOf (eOp oEq (eOp oIx (eVar 1) (eC (.int 0))) (eC (dS "opened")))) (sSeq (sSet 3 (eOp (oNIn false) (eVar 2) (eFld ["Judge"] "openings" (eVar 0)))) (sSeq (sNPutF (eFld ["Judge"] "openings" (eVar 0)) (eVar 2) (eOp oIx (eVar 1) (eC (.int 5)))) (sRet (eNot (eVar 3))))) sNx) (sSeq (sIf (tOf (eOp oEq (eOp oIx (eVar 1) (eC (.int 0))) (eC (dS "wrote")))) (sNPutF (eFld ["Judge"] "written" (eVar 0)) (eVar 2) (eOp oAdd (eNGet2 (eFld ["Judge"] "written" (eVar 0)) (eVar 2) (eTup aNil)) (eOp oIx (eVar 1) (eC (.int 5))))) sNx) (sSeq (sIf (tOf (eOp oEq (eOp oIx (eVar 1) (eC (.int 0))) (eC (dS "read")))) (sRet (eMeth "read_right" [("Judge", F_Judge_read_right)] (eVar 0) (aCons (eVar 2) (aCons (eOp oIx (eVar 1) (eC (.int 5))) aNil)))) sNx) (sRet (eC (.bl true)))))))
/- slots of is_between: 0=thing 1=most -/
noncomputable def F_is_between : Fn := mkFn 2 2
  (sRet (eAnd (eCB (c2 (oIsi os_ xs_ tb_)) (aCons (eVar 0) (aCons (eC (.ty "int")) aNil))) (eAnd (eNot (eCB (c2 (oIsi os_ xs_ tb_)) (aCons (eVar 0) (aCons (eC (.ty "bool")) aNil)))) (eCh oLe oLe (eC (.int 0)) (eVar 0) (eVar 1)))))
/- slots of is_whole: 0=thing 1=least 2=most -/
noncomputable def F_is_whole : Fn := mkFn 3 3
  (sRet (eAnd (eCB (c2 (oIsi os_ xs_ tb_)) (aCons (eVar 0) (aCons (eC (.ty "int")) aNil))) (eAnd (eNot (eCB (c2 (oIsi os_ xs_ tb_)) (aCons (eVar 0) (aCons (eC (.ty "bool")) aNil)))) (eCh oLe oLe (eVar 1) (eVar 0) (eVar 2)))))
/- slots of is_data: 0=thing 1=byte -/
noncomputable def F_is_data : Fn := mkFn 1 2
  (sSeq (sIf (tOo (tNo (tOf (eCB (c2 (oIsi os_ xs_ tb_)) (aCons (eVar 0) (aCons (eC (.ty "tuple")) aNil))))) (tOf (eOp oGt (eCB (c1 oLen) (aCons (eVar 0) aNil)) (eC (.int 1000))))) (sRet (eC (.bl false))) sNx) (sRet (eCB (c1 oAll) (aCons (eLc (wSeq (eVar 0)) (gN 1) tYe (eCall0 F_is_whole (aCons (eVar 1) (aCons (eC (.int 0)) (aCons (eC (.int 255)) aNil)))) [1]) aNil))))
/- slots of is_more: 0=word 1=more -/
noncomputable def F_is_more : Fn := mkFn 2 2
  (sSeq (sIf (tOf (eOp oIn (eVar 0) (eTup (aCons (eC (dS "wrote")) (aCons (eC (dS "read")) aNil))))) (sRet (eAnd (eCall F_is_data (aCons (eVar 1) aNil)) (eOp oGt (eCB (c1 oLen) (aCons (eVar 1) aNil)) (eC (.int 0))))) sNx) (sSeq (sIf (tOf (eOp oEq (eVar 0) (eC (dS "opened")))) (sRet (eCall F_is_between (aCons (eVar 1) (aCons (eOp oSub (eC (.int 4294967296)) (eC (.int 1))) aNil)))) sNx) (sRet (eAnd (eCB (c2 (oIsi os_ xs_ tb_)) (aCons (eVar 1) (aCons (eC (.ty "str")) aNil))) (eOp oIn (eVar 1) (eC (.wt [dS "calls", dS "answers", dS "open", dS "ends", dS "left", dS "rests", dS "closed", dS "cut", dS "gone"])))))))
/- slots of is_line: 0=thing 1=word 2=at 3=place 4=key 5=first 6=more 7=one -/
noncomputable def F_is_line : Fn := mkFn 1 8
  (sSeq (sIf (tOo (tNo (tOf (eCB (c2 (oIsi os_ xs_ tb_)) (aCons (eVar 0) (aCons (eC (.ty "tuple")) aNil))))) (tOf (eOp oNe (eCB (c1 oLen) (aCons (eVar 0) aNil)) (eC (.int 6))))) (sRet (eC (.bl false))) sNx) (sSeq (sAsg (eVar 0) (gT [(gN 1), (gN 2), (gN 3), (gN 4), (gN 5), (gN 6)])) (sSeq (sIf (tOo (tNo (tOf (eCB (c2 (oIsi os_ xs_ tb_)) (aCons (eVar 1) (aCons (eC (.ty "str")) aNil))))) (tOo (tOf (eOp oNotIn (eVar 1) (eTup (aCons (eC (dS "wrote")) (aCons (eC (dS "read")) (aCons (eC (dS "stands")) (aCons (eC (dS "opened")) aNil))))))) (tNo (tOf (eCall F_is_more (aCons (eVar 1) (aCons (eVar 6) aNil))))))) (sRet (eC (.bl false))) sNx) (sSeq (sIf (tOo (tNo (tOf (eCB (c2 (oIsi os_ xs_ tb_)) (aCons (eVar 2) (aCons (eC (.ty "int")) aNil))))) (tOo (tOf (eCB (c2 (oIsi os_ xs_ tb_)) (aCons (eVar 2) (aCons (eC (.ty "bool")) aNil)))) (tOf (eOp oLt (eVar 2) (eC (.int 0)))))) (sRet (eC (.bl false))) sNx) (sSeq (sIf (tOo (tNo (tOf (eCB (c2 (oIsi os_ xs_ tb_)) (aCons (eVar 4) (aCons (eC (.ty "tuple")) aNil))))) (tOo (tOf (eOp oNe (eCB (c1 oLen) (aCons (eVar 4) aNil)) (eC (.int 3)))) (tNo (tOf (eCB (c1 oAll) (aCons (eLc (wSeq (eVar 4)) (gN 7) tYe (eCall0 F_is_between (aCons (eVar 7) (aCons (eC (.int 255)) aNil))) [7]) aNil)))))) (sRet (eC (.bl false))) sNx) (sRet (eAnd (eCall F_is_between (aCons (eVar 3) (aCons (eC (.int 255)) aNil))) (eCall F_is_between (aCons (eVar 5) (aCons (eOp oSub (eC (.int 4294967296)) (eC (.int 1))) aNil))))))))))
/- slots of need_book: 0=thing 1=line 2=ticks -/
noncomputable def F_need_book : Fn := mkFn 1 3
  (sSeq (sIf (tOo (tNo (tOf (eCB (c2 (oIsi os_ xs_ tb_)) (aCons (eVar 0) (aCons (eC (.ty "list")) aNil))))) (tNo (tOf (eCB (c1 oAll) (aCons (eLc (wSeq (eVar 0)) (gN 1) tYe (eCall0 F_is_line (aCons (eVar 1) aNil)) [1]) aNil))))) (sRaise "NoBook") sNx) (sSeq (sSet 2 (eLc (wSeq (eVar 0)) (gN 1) tYe (eOp oIx (eVar 1) (eC (.int 1))) [1])) (sIf (tOf (eOp oNe (eVar 2) (eCB (c1 oSorted) (aCons (eVar 2) aNil)))) (sRaise "NoBook") sNx)))
/- slots of judged: 0=book 1=judge 2=number 3=line -/
noncomputable def F_judged : Fn := mkFn 1 4
  (sSeq (sDrop (eCall F_need_book (aCons (eVar 0) aNil))) (sSeq (sSet 1 (eMake0 "Judge" F_Judge___init__ aNil)) (sSeq (sFor (wOf wkEA (eVar 0)) (gT [(gN 2), (gN 3)]) (sIf (tNo (tOf (eMeth "follow" [("Judge", F_Judge_follow)] (eVar 1) (aCons (eVar 3) aNil)))) (sRet (eVar 2)) sNx)) (sRet (eC .non)))))
/- slots of places_written: 0=book 1=found 2=number 3=line 4=some 5=place -/
noncomputable def F_places_written : Fn := mkFn 1 6
  (sSeq (sSet 1 eNNew) (sSeq (sFor (wOf wkEA (eVar 0)) (gT [(gN 2), (gN 3)]) (sIf (tOf (eOp oEq (eOp oIx (eVar 3) (eC (.int 0))) (eC (dS "wrote")))) (sSeq (sSet 4 (eLc (wAs rg1 (aCons (eCB (c1 oLen) (aCons (eOp oIx (eVar 3) (eC (.int 5))) aNil)) aNil)) (gN 5) tYe (eTup (aCons (eVar 2) (aCons (eVar 5) aNil))) [5])) (sNPutF (eVar 1) (eCall F_talk_of (aCons (eVar 3) aNil)) (eOp oAdd (eNGet2 (eVar 1) (eCall F_talk_of (aCons (eVar 3) aNil)) (eLst aNil)) (eVar 4)))) sNx)) (sRet (eVar 1))))
/- slots of paper_of: 0=book 1=written 2=sources 3=line 4=had 5=found 6=talk 7=first_place -/
noncomputable def F_paper_of : Fn := mkFn 1 8
  (sSeq (sIf (tOf (eOp oIsNot (eCall F_judged (aCons (eVar 0) aNil)) (eC .non))) (sRet (eC .non)) sNx) (sSeq (sSet 1 (eCall F_places_written (aCons (eVar 0) aNil))) (sSeq (sSet 2 (eCB (c1 oDictN) (aCons (eLc (wSeq (eVar 0)) (gN 3) (tOf (eOp oEq (eOp oIx (eVar 3) (eC (.int 0))) (eC (dS "opened")))) (eTup (aCons (eCall0 F_talk_of (aCons (eVar 3) aNil)) (aCons (eCall0 F_partner_of (aCons (eCall0 F_talk_of (aCons (eVar 3) aNil)) (aCons (eOp oIx (eVar 3) (eC (.int 5))) aNil))) aNil))) [3]) aNil))) (sSeq (sSet 4 eNNew) (sSeq (sSet 5 (eLst aNil)) (sSeq (sFor (wSeq (eVar 0)) (gN 3) (sIf (tOf (eOp oEq (eOp oIx (eVar 3) (eC (.int 0))) (eC (dS "read")))) (sSeq (sSet 6 (eCall F_talk_of (aCons (eVar 3) aNil))) (sSeq (sSet 7 (eNGet2 (eVar 4) (eVar 6) (eC (.int 0)))) (sSeq (sNPutF (eVar 4) (eVar 6) (eOp oAdd (eVar 7) (eCB (c1 oLen) (aCons (eOp oIx (eVar 3) (eC (.int 5))) aNil)))) (sDrop (eBL oAppend (eVar 5) (aCons (eSl oSl (eNGet2 (eVar 1) (eOp oNGet (eVar 2) (eVar 6)) (eLst aNil)) (oSo (eVar 7)) (oSo (eOp oNGet (eVar 4) (eVar 6)))) aNil)))))) sNx)) (sRet (eVar 5))))))))
/- slots of is_pair: 0=thing 1=one -/
noncomputable def F_is_pair : Fn := mkFn 1 2
  (sSeq (sIf (tOo (tNo (tOf (eCB (c2 (oIsi os_ xs_ tb_)) (aCons (eVar 0) (aCons (eC (.ty "tuple")) aNil))))) (tOf (eOp oNe (eCB (c1 oLen) (aCons (eVar 0) aNil)) (eC (.int 2))))) (sRet (eC (.bl false))) sNx) (sRet (eCB (c1 oAll) (aCons (eLc (wSeq (eVar 0)) (gN 1) tYe (eAnd (eCB (c2 (oIsi os_ xs_ tb_)) (aCons (eVar 1) (aCons (eC (.ty "int")) aNil))) (eNot (eCB (c2 (oIsi os_ xs_ tb_)) (aCons (eVar 1) (aCons (eC (.ty "bool")) aNil))))) [1]) aNil))))
/- slots of is_formed: 0=thing 1=row 2=one -/
noncomputable def F_is_formed : Fn := mkFn 1 3
  (sSeq (sIf (tOo (tNo (tOf (eCB (c2 (oIsi os_ xs_ tb_)) (aCons (eVar 0) (aCons (eC (.ty "list")) aNil))))) (tNo (tOf (eCB (c1 oAll) (aCons (eLc (wSeq (eVar 0)) (gN 1) tYe (eCB (c2 (oIsi os_ xs_ tb_)) (aCons (eVar 1) (aCons (eC (.ty "list")) aNil))) [1]) aNil))))) (sRet (eC (.bl false))) sNx) (sRet (eCB (c1 oAll) (aCons (eLc (wSeq (eVar 0)) (gN 1) tYe (eCB (c1 oAll) (aCons (eLc (wSeq (eVar 1)) (gN 2) tYe (eCall0 F_is_pair (aCons (eVar 2) aNil)) [2]) aNil)) [1]) aNil))))
/- slots of shows: 0=book 1=paper 2=due -/
noncomputable def F_shows : Fn := mkFn 2 3
  (sSeq (sSet 2 (eCall F_paper_of (aCons (eVar 0) aNil))) (sRet (eAnd (eOp oIsNot (eVar 2) (eC .non)) (eAnd (eCall F_is_formed (aCons (eVar 1) aNil)) (eOp oEq (eVar 1) (eVar 2))))))
/- slots of law: 0=_law_script 1=_law_cells_here 2=_law_book_here 3=_law_due_here 4=_law_turn 5=_law_found 6=_law_paper_here 7=_law_cell 8=_law_wrong 9=_law_right -/
noncomputable def F_law : Fn := mkFn 1 10
  (sSeq (sSet 1 (eCall0 F_l_cells (aCons (eVar 0) aNil))) (sSeq (sSet 2 (eCall0 F_l_book (aCons (eVar 1) aNil))) (sSeq (sSet 3 (eC .non)) (sSeq (sIf (tOf (eOp oIs (eCall0 F_l_due (aCons (eVar 2) aNil)) (eC .non))) (sSet 3 (eCall0 F_l_paper (aCons (eVar 2) aNil))) sNx) (sSeq (sFor (wAs rg1 (aCons (eC (.int 2)) aNil)) (gN 4) (sSeq (sSet 5 (eCall0 F_paper_of (aCons (eVar 2) aNil))) (sSeq (sIf (tOf (eOp oNe (eVar 5) (eVar 3))) (sRet (eC (.bl false))) sNx) (sIf (tOf (eOp oIsNot (eVar 5) (eC .non))) (sDrop (eBL oAppend (eVar 5) (aCons (eC (dS "more")) aNil))) sNx)))) (sSeq (sSet 6 (eIf (tOf (eOp oIs (eVar 3) (eC .non))) (eLst aNil) (eVar 3))) (sSeq (sIf (tOf (eOp oNe (eCall0 F_shows (aCons (eVar 2) (aCons (eVar 6) aNil))) (eOp oIsNot (eVar 3) (eC .non)))) (sRet (eC (.bl false))) sNx) (sSeq (sFor (wSeq (eSl oSl (eVar 1) oNo (oSo (eC (.int 6))))) (gN 7) (sSeq (sSet 8 (eCall0 F_l_spoilt (aCons (eVar 6) (aCons (eVar 7) aNil)))) (sIf (tOf (eOp oNe (eCall0 F_shows (aCons (eVar 2) (aCons (eVar 8) aNil))) (eAnd (eOp oIsNot (eVar 3) (eC .non)) (eCall0 F_l_same (aCons (eVar 8) (aCons (eVar 3) aNil)))))) (sRet (eC (.bl false))) sNx))) (sSeq (sSet 9 (eVar 2)) (sSeq (sIf (tOf (eOp oIs (eVar 3) (eC .non))) (sSet 9 (eSl oSl (eVar 2) oNo (oSo (eCall0 F_l_due (aCons (eVar 2) aNil))))) sNx) (sRet (eOp oIs (eCall0 F_shows (aCons (eVar 9) (aCons (eCall0 F_paper_of (aCons (eVar 9) aNil)) aNil))) (eC (.bl true))))))))))))))
end Kk
namespace Kk
open PySem L2 SM
local macro_rules
  | `(tactic| simp_arith [$xs,*] $[$loc]?) => `(tactic| simp (disch := (first | omega | assumption | (simp only [List.length_set, List.length_append, List.length_cons, List.length_nil, List.length_map, List.length_take, List.length_drop, List.length_reverse, List.length_replicate, List.length_range] <;> omega) | (intro; omega) | (simp only [List.all_cons, List.all_nil, z39, z6h, Option.isSome_some, Bool.and_true, Bool.and_self]; done) | decide)) only [z6s, z46, z5f, z33, z3o, z4u, z8n, z2y, z0f, z6i, z4l, z6v, z5y, eC_, zaq, zcd, z8p, z77, zal, z5l, z4r, c1_, c2_, c3_, zab, z5d, za9, zb9, z8u, zbr, zbg, zbt, zby, zam, zc4, zca, z94, z8i, z0i, z6a, zc9, z6p, zbe, zat, z9c, zb3, z72, z3m, z7l, z6r, z0v, zau, zbv, zac, z3p, z79, z49, z6z, z3u, z7r, z87, z5r, zbz, z7s, z2a, z9r, gN_, z7a, z2w, z0z, z9x, z74, z93, z8w, za5, z5h, z6d, z4s, z1j, z9q, z8j, z8m, z64, z7c, z5s, z5q, z7p, z6q, z5t, z66, z6c, z6x, za8, z8o, z9s, z8l, z6n, z3q, z47, z3z, z6e, z5z, z80, z9g, z55, z3t, z9y, z9u, z3a, z09, z6y, z1n, z1h, z0r, z2n, z0u, z1o, z16, z30, z11, z12, z0o, z1q, z0m, z0p, z0a, z1a, z07, z0l, z0s, z0e, z0y, z06, z18, z0j, z02, z0h, z19, z05, z14, z0b, z03, z17, z1y, z20, z2b, z65, z61, z2z, z37, z91, z1z, z86, zb2, z27, z4t, z1r, z1d, z3c, z1e, z75, z4h, z6o, z3h, z4p, z2f, za2, z4k, z52, z7i, z6f, z0w, z4j, z4q, zc7, z85, z5o, z9o, z42, zai, z90, zb6, z4w, z4y, z4c, zbx, zcc, zc2, z3n, z44, z4b, z51, z1u, z8q, zbn, zax, z7k, z38, zaa, zbh, z56, zc0, z2t, zbm, z2m, zah, z1s, z2s, z13, zar, zao, zcb, z5u, z2h, zbk, z82, z3d, z3j, zbu, za3, z53, z54, z0t, z7q, zbl, z2k, z08, zak, z1m, z0c, zaz, z0g, zb5, z2x, z4f, zbo, zc1, zbf, z5x, zc6, zb1, zaj, z3g, zb7, z3x, zad, z8s, zc8, za1, zbs, z6u, zbq, z6b, z3f, z00, z0k, zaf, z3r, z8e, zbj, z9e, z2g, z1k, z8x, z8f, z7u, z31, z1l, z2p, z6m, z8z, z8d, z7w, z9w, z99, z76, z97, z96, z84, z95, z2o, z2r, z29, z98, z8g, z3e, z0x, z70, z4g, zay, z9h, z4z, z6h, z5m, z39, zb0, zbw, z8h, z25, z7z, z26, z2c, z1g, z1f, z0n, z04, z1x, z0q, z2d, z1i, z1v, z1b, z9f, z67, z63, z5c, z0d, z01, c4_, z4n, zbb, z7b, z40, z4a, z3b, z3k, z5g, z4v, z28, z1t, z7v, z4d, z8v, z9b, z1w, z5n, z68, z50, z58, z23, z71, z48, z34, z21, z2e, zbp, z5w, z4i, z5b, z2i, z8r, z7m, z78, z6j, z5p, z3i, z2l, z6t, z7h, z3v, z59, z5k, z5e, zaw, za6, z9j, zb4, z24, z8a, z7f, z35, z3s, zc5, zag, z7e, z88, z73, z9l, z60, z7g, z6l, z6g, z7n, z3l, z6k, z3w, za4, z8k, z9a, za7, zav, z4o, zbd, z15, zbc, z7o, z69, zap, z32, z81, zb8, zas, z22, z9p, z10, z5j, z5i, z4e, z2q, z89, z7t, zan, z1p, z92, z8t, z2j, zbi, z1c, z9d, z9m, z4x, zc3, z4m, z9z, z9k, za0, z7d, z7x, z3y, z9t, z83, z9n, z57, z5a, z2u, z7j, z45, z43, z41, z8c, zae, z6w, z7y, z36, z9v, z2v, z8b, z5v, z8y, wZ_, z9i, zba, z62, List.all_cons, List.all_nil, Bool.and_true, if_pos, if_neg, if_true, if_false, ite_true, ite_false, Bool.false_eq_true, Bool.true_eq_false, Bool.not_true, Bool.not_false, Bool.not_eq_true', decide_eq_true_eq, decide_eq_false_iff_not, Bool.not_eq_true, decide_true, decide_false, List.length_cons, List.length_nil, List.map_cons, List.map_nil, List.cons_append, List.nil_append, List.length_map, rep_nS, rep_n0, List.append_nil, List.mem_cons, List.mem_singleton, List.not_mem_nil, or_false, false_or, true_or, or_true, and_true, true_and, and_false, false_and, Option.isSome_some, Option.isSome_none, Option.isNone_none, Option.isNone_some, String.reduceEq, String.reduceNe, Nat.reduceAdd, Nat.reduceSub, Nat.reduceLT, Nat.reduceLeDiff, Nat.reduceMul, Int.reduceAdd, Int.reduceSub, Int.reduceMul, Int.reduceLT, Int.reduceLE, Int.reduceGT, Int.reduceEq, Int.reduceToNat, Int.reducePow, Int.reduceNeg, Nat.reduceEqDiff, eq_self, eq_self_iff_true, not_true_eq_false, not_false_eq_true, List.getElem?_cons_zero, List.getElem?_cons_succ, Option.bind_some, ne_eq, reduceCtorEq, Int.reduceDiv, Int.reduceMod, Bool.and_self, reduceIte, $xs,*] $[$loc]?)
local macro_rules
  | `(tactic| walk_at "fr!") => `(tactic| (repeat (first | exact Fr.refl | assumption | refine Fr.then_push ?_ | refine Fr.then_set ?_ (by first | exact Or.inr (Nat.le_refl _) | exact Or.inr (by omega) | (refine Or.inl ?_; simp; done) | (refine Or.inr ?_; simp; done)))))
theorem is_whole_ok {p lo hi : Int} {A : Hs} : F_is_whole [.int p, .int lo, .int hi] A = .ok (.bl (decide (lo ≤ p) && decide (p ≤ hi))) A := by
  unfold F_is_whole
  by_cases h : lo ≤ p
  · simp_arith [h, Bool.true_and]
  · simp_arith [h, Bool.false_and]
theorem is_data_ok {ds : List Int} {A : Hs} (h : ∀ b ∈ ds, 0 ≤ b ∧ b ≤ 255) (hl : ds.length ≤ 1000) : ∃ A1, F_is_data [.tup (ds.map D.int)] A = .ok (.bl true) A1 ∧ Fr [] A A1 := by
  have key : lcL (gN 1) tYe (eCall0 F_is_whole (aCons (eVar 1) (aCons (eC (.int 0)) (aCons (eC (.int 255)) aNil)))) tt [some (.tup (ds.map D.int)), none] (ds.map D.int) [] A = .ok (((ds.map D.int).filter fun _ => true).map fun _ => D.bl true) A := by
    refine lc_go _ _ trivial (by simp; omega) fun d hd => ?_
    obtain ⟨b, hb, rfl⟩ := List.mem_map.mp hd
    have := h b hb
    simp_arith [is_whole_ok]
    simp [this.1, this.2]
  refine ⟨_, ?_, .push (u := .lst (ds.map fun _ => .bl true))⟩
  have e : ∀ l : List Int, boolsOf (l.map fun _ => D.bl true) = some (l.map fun _ => true) := fun l => by
    have := z00 (l.map fun _ => true)
    rwa [List.map_map] at this
  have e2 : ((ds.map D.int).filter fun _ => true).map (fun _ => D.bl true) = ds.map fun _ => D.bl true := by
    rw [List.filter_eq_self.mpr (by simp), List.map_map]; rfl
  rw [e2] at key
  unfold F_is_data
  simp_arith [key, e]
  simp

/-! books: talks and lines as plain data -/
structure Tk where
  p : Int
  a : Int
  b : Int
  c : Int
  f : Int
deriving DecidableEq
def Tk.d (k : Tk) : D := .tup [.int k.p, .tup [.int k.a, .int k.b, .int k.c], .int k.f]
def Tk.k (k : Tk) : NestedKey := .tup [.num k.p, .tup [.num k.a, .num k.b, .num k.c], .num k.f]
theorem keyN_tk (k : Tk) : keyN k.d = some k.k := rfl
theorem Tk.k_inj {k l : Tk} : k.k = l.k ↔ k = l := by
  constructor
  · intro h
    unfold Tk.k at h
    simp only [NestedKey.tup.injEq, List.cons.injEq, NestedKey.num.injEq, and_true] at h
    obtain ⟨h1, ⟨h2, h3, h4⟩, h5⟩ := h
    cases k; cases l; simp_all
  · intro h; rw [h]
inductive Ev where
  | op (o : Int) | wr (l : List Int) | rd (l : List Int) | st (s : String)
def Ev.w : Ev → String
  | .op _ => "opened" | .wr _ => "wrote" | .rd _ => "read" | .st _ => "stands"
def Ev.m : Ev → D
  | .op o => .int o | .wr l => .tup (l.map D.int) | .rd l => .tup (l.map D.int) | .st s => dS s
structure Ln where
  t : Int
  k : Tk
  e : Ev
def Ln.d (x : Ln) : D := .tup [dS x.e.w, .int x.t, .int x.k.p, .tup [.int x.k.a, .int x.k.b, .int x.k.c], .int x.k.f, x.e.m]
def stands : List String := ["calls", "answers", "open", "ends", "left", "rests", "closed", "cut", "gone"]
def EvOk : Ev → Prop
  | .op o => 0 ≤ o ∧ o ≤ 4294967295
  | .wr l => (∀ b ∈ l, 0 ≤ b ∧ b ≤ 255) ∧ 1 ≤ l.length ∧ l.length ≤ 1000
  | .rd l => (∀ b ∈ l, 0 ≤ b ∧ b ≤ 255) ∧ 1 ≤ l.length ∧ l.length ≤ 1000
  | .st s => s ∈ stands
structure TkOk (k : Tk) : Prop where
  p : 0 ≤ k.p ∧ k.p ≤ 255
  a : 0 ≤ k.a ∧ k.a ≤ 255
  b : 0 ≤ k.b ∧ k.b ≤ 255
  c : 0 ≤ k.c ∧ k.c ≤ 255
  f : 0 ≤ k.f ∧ k.f ≤ 4294967295
structure LnOk (x : Ln) : Prop where
  t : 0 ≤ x.t
  k : TkOk x.k
  e : EvOk x.e
structure BkOk (L : List Ln) : Prop where
  l : L.length ≤ 1000
  x : ∀ x ∈ L, LnOk x
  s : (L.map Ln.t).Pairwise (· ≤ ·)
theorem BkOk.take {L : List Ln} (h : BkOk L) (n : Nat) : BkOk (L.take n) :=
  ⟨by have := h.l; rw [List.length_take]; omega, fun x hx => h.x x (List.mem_of_mem_take hx), by rw [List.map_take]; exact h.s.sublist (List.take_sublist _ _)⟩
def pyT (k : Tk) : PyData := .tuple [.int k.p, .tuple [.int k.a, .int k.b, .int k.c], .int k.f]
theorem eqA_tk {k l : Tk} {A : Hs} : eqA A k.d l.d = some (decide (k = l)) := by
  show some (PyData.eqv (pyT k) (pyT l)) = _
  congr 1
  unfold pyT
  simp only [PyData.eqv, PyData.eqvAll, Bool.and_true]
  rw [Bool.eq_iff_iff]
  simp only [Bool.and_eq_true, beq_iff_eq, decide_eq_true_eq]
  constructor
  · rintro ⟨h1, ⟨h2, h3, h4⟩, h5⟩
    cases k; cases l; simp_all
  · rintro rfl; simp
theorem oEq_tk {k l : Tk} {A : Hs} : oEq k.d l.d A = .ok (.bl (decide (k = l))) A := eqA_of eqA_tk
theorem line_at0 {x : Ln} {A : Hs} : oIx x.d (.int 0) A = .ok (dS x.e.w) A := rfl
theorem line_at1 {x : Ln} {A : Hs} : oIx x.d (.int 1) A = .ok (.int x.t) A := rfl
theorem line_at2 {x : Ln} {A : Hs} : oIx x.d (.int 2) A = .ok (.int x.k.p) A := rfl
theorem line_at3 {x : Ln} {A : Hs} : oIx x.d (.int 3) A = .ok (.tup [.int x.k.a, .int x.k.b, .int x.k.c]) A := rfl
theorem line_at4 {x : Ln} {A : Hs} : oIx x.d (.int 4) A = .ok (.int x.k.f) A := rfl
theorem line_at5 {x : Ln} {A : Hs} : oIx x.d (.int 5) A = .ok x.e.m A := rfl
theorem line_25 {x : Ln} {A : Hs} : oSl x.d (some 2) (some 5) A = .ok x.k.d A := by
  unfold Ln.d
  simp_arith []
  rfl
theorem line_2 {x : Ln} {A : Hs} : oSl x.d (some 2) none A = .ok (.tup [.int x.k.p, .tup [.int x.k.a, .int x.k.b, .int x.k.c], .int x.k.f, x.e.m]) A := by
  unfold Ln.d
  simp_arith []
  rfl
theorem talk_at2 {k : Tk} {A : Hs} : oIx k.d (.int 2) A = .ok (.int k.f) A := rfl
/-! need_book -/
theorem is_between_ok {p hi : Int} {A : Hs} : F_is_between [.int p, .int hi] A = .ok (.bl (decide (0 ≤ p) && decide (p ≤ hi))) A := by
  unfold F_is_between
  by_cases h : (0 : Int) ≤ p
  · simp_arith [h, Bool.true_and]
  · simp_arith [h, Bool.false_and]
theorem is_between_t {p hi : Int} {A : Hs} (h : 0 ≤ p ∧ p ≤ hi) : F_is_between [.int p, .int hi] A = .ok (.bl true) A := by
  rw [is_between_ok, decide_eq_true h.1, decide_eq_true h.2]; rfl
theorem in_wordsN {neg : Bool} {s : String} {A : Hs} {l : List String} (h : s ∈ l) : inl_ A (dS s) (l.map dS) neg = .ok (.bl (!neg)) A := by
  unfold inl_
  have e1 : pyA A 40 (dS s) = some (.str (fS s)) := rfl
  have e2 : allSome ((l.map dS).map (pyA A 39)) = some (l.map fun x => .str (fS x)) := by
    clear h
    induction l with
    | nil => rfl
    | cons x l ih =>
      rw [List.map_cons, List.map_cons, List.map_cons]
      have : pyA A 39 (dS x) = some (.str (fS x)) := rfl
      rw [this, allSome, ih]; rfl
  rw [e1, e2]
  have : ((l.map fun x => PyData.str (fS x)).any fun z => PyData.eqv z (.str (fS s))) = true := by
    rw [List.any_eq_true]
    exact ⟨_, List.mem_map.mpr ⟨s, h, rfl⟩, by simp [PyData.eqv]⟩
  simp only [this]
  cases neg <;> rfl
theorem in_words {s : String} {A : Hs} {l : List String} (h : s ∈ l) : inl_ A (dS s) (l.map dS) false = .ok (.bl true) A := in_wordsN h
theorem is_more_ok {e : Ev} {A : Hs} (h : EvOk e) : Rk (F_is_more [dS e.w, e.m] A) fun v A1 => v = .bl true ∧ Fr [] A A1 := by
  unfold F_is_more
  cases e with
  | op o =>
    have e1 := is_between_t (A := A) (p := o) (hi := 4294967295) h
    have i1 : inl_ A (dS "opened") [dS "wrote", dS "read"] false = .ok (.bl false) A := rfl
    simp_arith [Ev.w, Ev.m, i1, e1]
    exact Fr.refl
  | wr l =>
    obtain ⟨A1, e1, f1⟩ := is_data_ok (A := A) h.1 h.2.2
    have h2 := h.2.1
    have i1 : inl_ A (dS "wrote") [dS "wrote", dS "read"] false = .ok (.bl true) A := in_words (l := ["wrote", "read"]) (by simp)
    have h3 : (0 : Int) < (l.length : Int) := by omega
    simp_arith [Ev.w, Ev.m, i1, e1, h3]
    exact f1
  | rd l =>
    obtain ⟨A1, e1, f1⟩ := is_data_ok (A := A) h.1 h.2.2
    have h2 := h.2.1
    have i1 : inl_ A (dS "read") [dS "wrote", dS "read"] false = .ok (.bl true) A := in_words (l := ["wrote", "read"]) (by simp)
    have h3 : (0 : Int) < (l.length : Int) := by omega
    simp_arith [Ev.w, Ev.m, i1, e1, h3]
    exact f1
  | st s =>
    have i1 : inl_ A (dS "stands") [dS "wrote", dS "read"] false = .ok (.bl false) A := rfl
    have i2 : oIn (dS s) (.wt [dS "calls", dS "answers", dS "open", dS "ends", dS "left", dS "rests", dS "closed", dS "cut", dS "gone"]) A = .ok (.bl true) A := by
      have := in_words (A := A) (l := stands) h
      exact this
    simp_arith [Ev.w, Ev.m, i1, i2]
    exact Fr.refl

theorem isi_ss {s : String} {A : Hs} : oIsi os_ xs_ tb_ (dS s) (.ty "str") A = .ok (.bl true) A := rfl
theorem Ev.w_ne (e : Ev) : e.w ∈ ["wrote", "read", "stands", "opened"] := by cases e <;> simp [Ev.w]
theorem is_line_ok {x : Ln} {A : Hs} (h : LnOk x) : Rk (F_is_line [x.d] A) fun v A1 => v = .bl true ∧ Fr [] A A1 := by
  obtain ⟨_, A1, e1, rfl, f1⟩ := (is_more_ok (A := A) h.e).ex
  have i1 : inl_ A (dS x.e.w) [dS "wrote", dS "read", dS "stands", dS "opened"] true = .ok (.bl false) A := in_wordsN (l := ["wrote", "read", "stands", "opened"]) x.e.w_ne
  have ht := h.t
  have key : ∀ B, lcL (gN 7) tYe (eCall0 F_is_between (aCons (eVar 7) (aCons (eC (.int 255)) aNil))) tt [some x.d, some (dS x.e.w), some (.int x.t), some (.int x.k.p), some (.tup [.int x.k.a, .int x.k.b, .int x.k.c]), some (.int x.k.f), some x.e.m, none] [.int x.k.a, .int x.k.b, .int x.k.c] [] B = .ok (([D.int x.k.a, .int x.k.b, .int x.k.c].filter fun _ => true).map fun _ => D.bl true) B := fun B => by
    refine lc_go _ _ trivial (by simp) fun d hd => ?_
    have : ∃ n : Int, d = .int n ∧ 0 ≤ n ∧ n ≤ 255 := by
      simp only [List.mem_cons, List.not_mem_nil, or_false] at hd
      rcases hd with rfl | rfl | rfl
      · exact ⟨_, rfl, h.k.a⟩
      · exact ⟨_, rfl, h.k.b⟩
      · exact ⟨_, rfl, h.k.c⟩
    obtain ⟨n, rfl, hn⟩ := this
    have e1 := is_between_t (A := B) hn
    show Got _ _
    simp_arith [e1]
    try exact fun _ => trivial
  have b1 : ∀ B, F_is_between [.int x.k.p, .int 255] B = .ok (.bl true) B := fun B => is_between_t h.k.p
  have b2 : ∀ B, F_is_between [.int x.k.f, .int 4294967295] B = .ok (.bl true) B := fun B => is_between_t h.k.f
  have al : boolsOf [D.bl true, .bl true, .bl true] = some [true, true, true] := rfl
  have nt : ¬ x.t < 0 := by omega
  unfold F_is_line
  have dd : x.d = .tup [dS x.e.w, .int x.t, .int x.k.p, .tup [.int x.k.a, .int x.k.b, .int x.k.c], .int x.k.f, x.e.m] := rfl
  rw [dd] at key ⊢
  have key := key A1
  rw [show (List.filter (fun _ => true) [D.int x.k.a, .int x.k.b, .int x.k.c]).map (fun _ => D.bl true) = [.bl true, .bl true, .bl true] from rfl] at key
  simp_arith [isi_ss, i1, e1, key, b1, b2, al, nt]
  exact Fr.then_push f1
theorem srt_same {l : List Int} (h : l.Pairwise (· ≤ ·)) : srt l = l := (srt_eq (List.Perm.refl l) h).symm
theorem lc_frs {g : G} {t : Tt} {a : E} {env : Sl} {gd : Hs → Prop} (f : D → D) {ds : List D} {A : Hs} (hl : ds.length < 16000000) (hg : ∀ B, Fr [] A B → gd B) (hs : ∀ d ∈ ds, ∀ B, Fr [] A B → Got (g d env B) fun e1 => Rk (t e1 B) fun c A1 => c = true ∧ A1 = B ∧ Rk (a e1 B) fun v A2 => v = f d ∧ Fr [] B A2) :
    ∃ A1, lcL g t a gd env ds [] A = .ok (ds.map f) A1 ∧ Fr [] A A1 := by
  have R := lc_run (g := g) (t := t) (a := a) (gd := gd) (env := env) (fun i l B => l = (ds.take i).map f ∧ Fr [] A B) ⟨rfl, Fr.refl⟩ hl (fun _ _ B h => hg B h.2) (by
    rintro i d hd l B ⟨rfl, fB⟩
    have h := hs d (List.mem_of_getElem? hd) B fB
    cases q : g d env B with
    | none => rw [q] at h; exact h.elim
    | some e1 =>
      rw [q] at h
      obtain ⟨c, A1, h1, rfl, rfl, h2⟩ := Rk.ex h
      obtain ⟨v, A2, h3, rfl, h4⟩ := h2.ex
      show Rk (t e1 _) _
      rw [h1]
      show Rk (a e1 _) _
      rw [h3]
      exact ⟨by rw [List.take_succ, hd]; simp, fB.trans h4⟩)
  obtain ⟨l, A1, e, h1, f⟩ := R.ex
  rw [List.take_length] at h1
  exact ⟨A1, by rw [e, h1], f⟩
theorem all_tr {L : List Ln} : boolsOf (L.map fun _ => D.bl true) = some (L.map fun _ => true) := by
  have := z00 (L.map fun _ => true)
  rwa [List.map_map] at this
theorem need_book_ok {A : Hs} {b : Nat} {L : List Ln} (hb : A[b]? = some (.lst (L.map Ln.d))) (h : BkOk L) : Rk (F_need_book [.ref b] A) fun v A1 => v = .non ∧ Fr [] A A1 := by
  have hl := h.l
  have bl := lt_of_get hb
  obtain ⟨A1, e1, f1⟩ := lc_frs (g := gN 1) (t := tYe) (a := eCall0 F_is_line (aCons (eVar 1) aNil)) (gd := fun A' => A'[b]? = some (.lst (L.map Ln.d))) (env := [some (.ref b), none, none]) (A := A) (ds := L.map Ln.d) (fun _ => .bl true) (by simp; omega) (fun B f => f.get hb (by simp)) (by
    intro d hd B fB
    obtain ⟨x, hx, rfl⟩ := List.mem_map.mp hd
    obtain ⟨_, A2, e, rfl, f⟩ := (is_line_ok (A := B) (h.x x hx)).ex
    show Got _ _
    simp_arith [e]
    exact f)
  rw [List.map_map] at e1
  have hb1 := f1.get hb (by simp)
  have bl1 := lt_of_get hb1
  have hb2 : (A1 ++ [O.lst (L.map fun _ => D.bl true)])[b]? = some (.lst (L.map Ln.d)) := by rw [List.getElem?_append_left bl1]; exact hb1
  have e2 : lcL (gN 1) tYe (eOp oIx (eVar 1) (eC (.int 1))) (fun A' => A'[b]? = some (.lst (L.map Ln.d))) [some (.ref b), none, none] (L.map Ln.d) [] (A1 ++ [O.lst (L.map fun _ => D.bl true)]) = .ok ((L.map Ln.t).map D.int) (A1 ++ [O.lst (L.map fun _ => D.bl true)]) := by
    rw [lc_go (fun _ => true) (fun d => match d with | .tup (_ :: t :: _) => t | _ => .non) hb2 (by simp; omega)]
    · rw [List.filter_eq_self.mpr (by simp), List.map_map, List.map_map]; rfl
    · intro d hd
      obtain ⟨x, hx, rfl⟩ := List.mem_map.mp hd
      show Got _ _
      simp_arith [line_at1]
      try exact fun _ => rfl
  have e3 : (Function.comp (fun _ => D.bl true) Ln.d) = fun _ => D.bl true := rfl
  rw [e3] at e1
  have hs := srt_same h.s
  have e5 : (L.map fun _ => true).all id = true := by simp
  have i1 : oIsi os_ xs_ tb_ (.ref b) (.ty "list") A = .ok (.bl true) A := by
    unfold oIsi isiD kdOf
    simp only [hb]
    rfl
  unfold F_need_book
  simp_arith [hb, i1, e1, all_tr, hb1, e2, e5, z0k, hs]
  rw [oNe_lst (l := (L.map Ln.t).map D.int) (by
    rw [List.getElem?_append_left (by simp), List.getElem?_append_right (by simp)]; simp) (by
    rw [List.getElem?_append_right (by simp)]; simp) (by rw [List.all_eq_true]; intro d hd; obtain ⟨n, _, rfl⟩ := List.mem_map.mp hd; exact pd_int)]
  simp_arith []
  exact Fr.then_push (Fr.then_push (Fr.then_push f1))

/-! what is right in a book, by the lines ahead -/
def ptn (k : Tk) (o : Int) : Tk := ⟨k.a, k.p, k.c, k.b, o⟩
def opE (k : Tk) (x : Ln) : Option Int := match x.e with
  | .op o => if x.k = k then some o else none
  | _ => none
def wrE (k : Tk) (x : Ln) : List Int := match x.e with
  | .wr l => if x.k = k then l else []
  | _ => []
def rdE (k : Tk) (x : Ln) : List Int := match x.e with
  | .rd l => if x.k = k then l else []
  | _ => []
def own (P : List Ln) (k : Tk) : Option Int := P.findSome? (opE k)
def byW (P : List Ln) (k : Tk) : List Int := P.flatMap (wrE k)
def byR (P : List Ln) (k : Tk) : List Int := P.flatMap (rdE k)
def goesOn (w h : List Int) : Bool := decide (w.take h.length = h)
def rightP (P : List Ln) (x : Ln) : Bool := match x.e with
  | .op _ => (own P x.k).isNone
  | .rd l => match own P x.k with
    | none => false
    | some o => if own P (ptn x.k o) = some x.k.f then goesOn (byW P (ptn x.k o)) (byR P x.k ++ l) else false
  | _ => true
def fwr (P : List Ln) : List Ln → Option Nat
  | [] => none
  | x :: r => if rightP P x then fwr (P ++ [x]) r else some P.length
theorem own_snoc {P : List Ln} {x : Ln} {k : Tk} : own (P ++ [x]) k = (own P k).or (opE k x) := by
  unfold own; rw [List.findSome?_append]; simp [List.findSome?_cons]; cases opE k x <;> rfl
theorem byW_snoc {P : List Ln} {x : Ln} {k : Tk} : byW (P ++ [x]) k = byW P k ++ wrE k x := by simp [byW]
theorem byR_snoc {P : List Ln} {x : Ln} {k : Tk} : byR (P ++ [x]) k = byR P k ++ rdE k x := by simp [byR]
def mo : Option Int → D
  | some o => .int o
  | none => .non
theorem eqA_ni {o : Option Int} {p : Int} {A : Hs} : eqA A (mo o) (.int p) = some (decide (o = some p)) := by
  cases o with
  | none => rfl
  | some n =>
    show some (PyData.eqv (.int n) (.int p)) = _
    simp [PyData.eqv]
    rfl
theorem oNe_mo {o : Option Int} {p : Int} {A : Hs} : oNe (mo o) (.int p) A = .ok (.bl (!decide (o = some p))) A := neA_of eqA_ni
theorem eqA_its {l m : List Int} {A : Hs} : eqA A (.tup (l.map D.int)) (.tup (m.map D.int)) = some (decide (l = m)) := by
  have e : ∀ l : List Int, allSome ((l.map D.int).map (pyA A 39)) = some (l.map .int) := by
    intro l
    induction l with
    | nil => rfl
    | cons x l ih =>
      rw [List.map_cons, List.map_cons]
      have : pyA A 39 (.int x) = some (.int x) := by rw [pyA]
      rw [this, allSome, ih]; rfl
  unfold eqA
  have h1 : ∀ l : List Int, pyA A 40 (.tup (l.map D.int)) = some (.tuple (l.map .int)) := fun l => by
    show (allSome ((l.map D.int).map (pyA A 39))).map PyData.tuple = _
    rw [e]; rfl
  rw [h1, h1]
  simp only
  congr 1
  show PyData.eqvAll _ _ = _
  clear h1 e
  induction l generalizing m with
  | nil => cases m <;> simp [PyData.eqvAll]
  | cons x l ih =>
    cases m with
    | nil => simp [PyData.eqvAll]
    | cons y m =>
      rw [List.map_cons, List.map_cons, PyData.eqvAll, ih]
      rw [Bool.eq_iff_iff]
      simp [PyData.eqv]
theorem oEq_its {l m : List Int} {A : Hs} : oEq (.tup (l.map D.int)) (.tup (m.map D.int)) A = .ok (.bl (decide (l = m))) A := eqA_of eqA_its
theorem oNe_its {l m : List Int} {A : Hs} : oNe (.tup (l.map D.int)) (.tup (m.map D.int)) A = .ok (.bl (!decide (l = m))) A := neA_of eqA_its
/-- dicts by talks: what a dict holds -/
def NdI (A : Hs) (i n : Nat) (f : Tk → Option D) : Prop := ∃ l, A[i]? = some (.nd l) ∧ l.length ≤ n ∧ ∀ k : Tk, nget l k.k = f k
theorem NdI.frame {A B : Hs} {i n : Nat} {f : Tk → Option D} {s : List Nat} (h : NdI A i n f) (fr : Fr s A B) (hi : i ∉ s) : NdI B i n f := by
  obtain ⟨l, h1, h2⟩ := h
  exact ⟨l, fr.get h1 hi, h2⟩
theorem NdI.put {A : Hs} {i n : Nat} {f : Tk → Option D} {l : List (NestedKey × D)} {k : Tk} {d : D} (hi : i < A.length) (h2 : l.length ≤ n) (h3 : ∀ k : Tk, nget l k.k = f k) :
    NdI (A.set i (.nd (nput l k.k d))) i (n + 1) (fun q => if k = q then some d else f q) := by
  refine ⟨_, zaf hi, Nat.le_trans nput_len (by omega), fun q => ?_⟩
  rw [nget_put, h3]
  show _ = if k = q then some d else f q
  by_cases c : k = q
  · rw [if_pos (by rw [c]), if_pos c]
  · rw [if_neg (fun e => c (Tk.k_inj.mp e)), if_neg c]
theorem NdI.new {A : Hs} {n : Nat} : NdI (A ++ [.nd []]) A.length n fun _ => none := ⟨[], zbj, Nat.zero_le _, fun _ => rfl⟩
theorem NdI.lt {A : Hs} {i n : Nat} {f : Tk → Option D} (h : NdI A i n f) : i < A.length := by
  obtain ⟨l, h1, _⟩ := h; exact lt_of_get h1
def dI (l : List Int) : D := .tup (l.map D.int)
structure IsJ (A : Hs) (j i1 i2 i3 n : Nat) (O : Tk → Option Int) (W R : Tk → List Int) : Prop where
  o : A[j]? = some (.obj "Judge" [("openings", .ref i1), ("written", .ref i2), ("had", .ref i3)])
  a : NdI A i1 n fun k => (O k).map D.int
  b : ∃ f, NdI A i2 n f ∧ ∀ k, (f k).getD (.tup []) = dI (W k)
  c : ∃ f, NdI A i3 n f ∧ ∀ k, (f k).getD (.tup []) = dI (R k)
  d : i1 ≠ i2 ∧ i1 ≠ i3 ∧ i2 ≠ i3 ∧ j ≠ i1 ∧ j ≠ i2 ∧ j ≠ i3
theorem talk_of_ok {x : Ln} {A : Hs} : F_talk_of [x.d] A = .ok x.k.d A := by
  unfold F_talk_of
  simp_arith [line_at2, line_at3, line_at4]
  rfl
theorem partner_of_ok {k : Tk} {o : Int} {A : Hs} : F_partner_of [k.d, .int o] A = .ok (ptn k o).d A := by
  unfold F_partner_of Tk.d
  simp_arith []
  rfl
theorem source_of_ok {A : Hs} {j i1 i2 i3 n : Nat} {O : Tk → Option Int} {W R : Tk → List Int} (h : IsJ A j i1 i2 i3 n O W R) {k : Tk} :
    F_Judge_source_of [.ref j, k.d] A = .ok (match O k with
      | none => .non
      | some o => if O (ptn k o) = some k.f then (ptn k o).d else .non) A := by
  obtain ⟨l, h1, h2, h3⟩ := h.a
  have h3 : ∀ k : Tk, nget l k.k = (O k).map D.int := h3
  have ho := h.o
  have k1 := h3 k
  unfold F_Judge_source_of
  cases c : O k with
  | none =>
    rw [c] at k1
    simp_arith [ho, h1, keyN_tk, k1, Option.map_none]
  | some o =>
    rw [c] at k1
    have k2 := h3 (ptn k o)
    have e2 : (nget l (ptn k o).k).getD .non = mo (O (ptn k o)) := by
      rw [k2]; cases O (ptn k o) <;> rfl
    simp_arith [ho, h1, keyN_tk, k1, Option.map_some, partner_of_ok, e2, talk_at2, oNe_mo]
    by_cases q : O (ptn k o) = some k.f
    · simp_arith [q]
    · simp_arith [q]

theorem IsJ.congr {A : Hs} {j i1 i2 i3 n : Nat} {O O' : Tk → Option Int} {W W' R R' : Tk → List Int} (h : IsJ A j i1 i2 i3 n O W R) (e1 : ∀ k, O k = O' k) (e2 : ∀ k, W k = W' k) (e3 : ∀ k, R k = R' k) : IsJ A j i1 i2 i3 n O' W' R' := by
  obtain rfl : O = O' := funext e1
  obtain rfl : W = W' := funext e2
  obtain rfl : R = R' := funext e3
  exact h
theorem NdI.more {A : Hs} {i n m : Nat} {f : Tk → Option D} (h : NdI A i n f) (hm : n ≤ m) : NdI A i m f := by
  obtain ⟨l, h1, h2, h3⟩ := h
  exact ⟨l, h1, by omega, h3⟩
theorem read_right_ok {A : Hs} {j i1 i2 i3 n : Nat} {O : Tk → Option Int} {W R : Tk → List Int} (h : IsJ A j i1 i2 i3 n O W R) {k : Tk} {l : List Int} (hn : n ≤ 1000) (hl : (R k).length + l.length ≤ 16000000) :
    Rk (F_Judge_read_right [.ref j, k.d, dI l] A) fun v A1 => ∃ b, v = .bl b ∧ b = (match O k with
      | none => false
      | some o => if O (ptn k o) = some k.f then goesOn (W (ptn k o)) (R k ++ l) else false) ∧ (b = true → IsJ A1 j i1 i2 i3 (n + 1) O W fun q => if k = q then R k ++ l else R q) ∧ Fr [i1, i2, i3] A A1 := by
  have e := source_of_ok h (k := k)
  have ho := h.o
  unfold F_Judge_read_right
  cases c : O k with
  | none =>
    rw [c] at e
    simp_arith [ho, e]
    exact ⟨false, rfl, rfl, fun z => (by cases z), Fr.refl⟩
  | some o =>
    rw [c] at e
    simp only at e
    by_cases q : O (ptn k o) = some k.f
    · rw [if_pos q] at e
      obtain ⟨f2, ⟨l2, w1, w2, w3⟩, w4⟩ := h.b
      obtain ⟨f3, ⟨l3, r1, r2, r3⟩, r4⟩ := h.c
      obtain ⟨d1, d2, d3, d4, d5, d6⟩ := h.d
      have hr : (nget l3 k.k).getD (.tup []) = dI (R k) := by rw [r3]; exact r4 k
      have hw : (nget l2 (ptn k o).k).getD (.tup []) = dI (W (ptn k o)) := by rw [w3]; exact w4 _
      have z3 := lt_of_get r1
      have nn : isNon (ptn k o).d = false := rfl
      obtain ⟨B, hB⟩ : ∃ B, B = A.set i3 (.nd (nput l3 k.k (dI (R k ++ l)))) := ⟨_, rfl⟩
      have b1 : B[i2]? = some (.nd l2) := by rw [hB, z3r d3.symm]; exact w1
      have bo : B[j]? = some (.obj "Judge" [("openings", .ref i1), ("written", .ref i2), ("had", .ref i3)]) := by rw [hB, z3r d6.symm]; exact ho
      have fB : Fr [i1, i2, i3] A B := by rw [hB]; exact Fr.set (by simp)
      have ea : ∀ A, oAdd (dI (R k)) (dI l) A = .ok (dI (R k ++ l)) A := fun A => by
        unfold dI
        rw [z7c (by rw [List.length_map, List.length_map]; exact hl), List.map_append]
      have le : (((R k ++ l).length : Nat) : Int) ≥ 0 := by omega
      have el : ∀ A, oLen (dI (R k ++ l)) A = .ok (.int ((R k ++ l).length : Nat)) A := fun A => by
        unfold dI
        rw [z65, List.length_map]
      have es : ∀ A, oSl (dI (W (ptn k o))) none (some ((R k ++ l).length : Nat)) A = .ok (dI ((W (ptn k o)).take (R k ++ l).length)) A := fun A => by
        unfold dI
        rw [z91, z78 (by omega), ← List.map_take]
        rfl
      have eq : ∀ A, oEq (dI ((W (ptn k o)).take (R k ++ l).length)) (dI (R k ++ l)) A = .ok (.bl (goesOn (W (ptn k o)) (R k ++ l))) A := fun A => oEq_its
      have l3' : l3.length < 16000000 := by omega
      simp_arith [ho, e, r1, keyN_tk, hr, ea, z8y l3', ← hB, nn]
      simp_arith [bo, b1, keyN_tk, hw, el, es, eq]
      refine ⟨_, rfl, by first | rfl | rw [if_pos q], fun _ => ?_, fB⟩
      refine ⟨bo, ?_, ⟨f2, ?_, w4⟩, ⟨_, hB ▸ (NdI.put z3 r2 r3), fun q => ?_⟩, h.d⟩
      · exact (h.a.frame (s := [i3]) (by rw [hB]; exact Fr.set (by simp)) (by simpa using d2)).more (by omega)
      · exact (NdI.frame (A := A) (i := i2) (n := n) (f := f2) (s := [i3]) ⟨l2, w1, w2, w3⟩ (by rw [hB]; exact Fr.set (by simp)) (by simpa using d3)).more (by omega)
      · by_cases c2 : k = q
        · simp only [if_pos c2]; rfl
        · simp only [if_neg c2]; exact r4 q
    · rw [if_neg q] at e
      simp_arith [ho, e]
      exact ⟨false, rfl, by first | rfl | rw [if_neg q], fun z => (by cases z), Fr.refl⟩

theorem flat_len {P : List Ln} {g : Ln → List Int} (h : ∀ x ∈ P, (g x).length ≤ 1000) : (P.flatMap g).length ≤ 1000 * P.length := by
  induction P with
  | nil => simp
  | cons x P ih =>
    have h1 := h x List.mem_cons_self
    have h2 := ih fun y hy => h y (List.mem_cons_of_mem _ hy)
    rw [List.flatMap_cons, List.length_append, List.length_cons]
    omega
theorem byR_len {P : List Ln} {k : Tk} (h : ∀ x ∈ P, LnOk x) : (byR P k).length ≤ 1000 * P.length := flat_len fun x hx => by
  have := (h x hx).e
  unfold rdE
  cases e : x.e with
  | rd l =>
    rw [e] at this
    by_cases c : x.k = k
    · simp only [if_pos c]; exact this.2.2
    · simp only [if_neg c]; simp
  | _ => simp
theorem byW_len {P : List Ln} {k : Tk} (h : ∀ x ∈ P, LnOk x) : (byW P k).length ≤ 1000 * P.length := flat_len fun x hx => by
  have := (h x hx).e
  unfold wrE
  cases e : x.e with
  | wr l =>
    rw [e] at this
    by_cases c : x.k = k
    · simp only [if_pos c]; exact this.2.2
    · simp only [if_neg c]; simp
  | _ => simp
theorem follow_ok {A : Hs} {j i1 i2 i3 : Nat} {P : List Ln} {x : Ln} (h : IsJ A j i1 i2 i3 P.length (own P) (byW P) (byR P)) (hp : ∀ y ∈ P, LnOk y) (hx : LnOk x) (hn : P.length ≤ 1000) :
    Rk (F_Judge_follow [.ref j, x.d] A) fun v A1 => v = .bl (rightP P x) ∧ (rightP P x = true → IsJ A1 j i1 i2 i3 (P ++ [x]).length (own (P ++ [x])) (byW (P ++ [x])) (byR (P ++ [x]))) ∧ Fr [i1, i2, i3] A A1 := by
  have ho := h.o
  have ln : (P ++ [x]).length = P.length + 1 := by simp
  obtain ⟨d1, d2, d3, d4, d5, d6⟩ := h.d
  rw [ln]
  unfold F_Judge_follow
  cases e : x.e with
  | op o =>
    obtain ⟨l, h1, h2, h3⟩ := h.a
    have h3 : ∀ k : Tk, nget l k.k = (own P k).map D.int := h3
    have k1 := h3 x.k
    have k2 : (nget l x.k.k).isSome = (own P x.k).isSome := by rw [k1]; cases own P x.k <;> rfl
    have z1 := lt_of_get h1
    have hl : l.length < 16000000 := by omega
    obtain ⟨B, hB⟩ : ∃ B, B = A.set i1 (.nd (nput l x.k.k (.int o))) := ⟨_, rfl⟩
    have fB : Fr [i1] A B := by rw [hB]; exact Fr.set (by simp)
    simp_arith [talk_of_ok, line_at0, line_at5, e, Ev.w, Ev.m, ho, h1, keyN_tk, k2, z8y hl, ← hB]
    refine ⟨by unfold rightP; rw [e]; simp only; cases own P x.k <;> rfl, fun r => ?_, fB.mono (by simp)⟩
    have r0 : own P x.k = none := by
      unfold rightP at r; rw [e] at r; simpa using r
    refine ⟨fB.get ho (by simpa using d4), ?_, ?_, ?_, h.d⟩
    · have := NdI.put (A := A) (k := x.k) (d := .int o) (f := fun k => (own P k).map D.int) z1 h2 h3
      rw [← hB] at this
      obtain ⟨l', a1, a2, a3⟩ := this
      refine ⟨l', a1, a2, fun q => ?_⟩
      rw [a3]
      show (if x.k = q then some (D.int o) else (own P q).map D.int) = (own (P ++ [x]) q).map D.int
      rw [own_snoc]
      unfold opE
      rw [e]
      simp only
      by_cases c : x.k = q
      · rw [if_pos c, if_pos c, ← c, r0]; rfl
      · rw [if_neg c, if_neg c]; cases own P q <;> rfl
    · obtain ⟨f, a1, a2⟩ := h.b
      refine ⟨f, (a1.frame fB (by simpa using d1.symm)).more (by omega), fun k => ?_⟩
      rw [a2, byW_snoc]; unfold wrE; rw [e]; simp
    · obtain ⟨f, a1, a2⟩ := h.c
      refine ⟨f, (a1.frame fB (by simpa using d2.symm)).more (by omega), fun k => ?_⟩
      rw [a2, byR_snoc]; unfold rdE; rw [e]; simp
  | wr l =>
    obtain ⟨f2, ⟨l2, w1, w2, w3⟩, w4⟩ := h.b
    have hw : (nget l2 x.k.k).getD (.tup []) = dI (byW P x.k) := by rw [w3]; exact w4 x.k
    have z2 := lt_of_get w1
    have hl : l2.length < 16000000 := by omega
    have bw := byW_len (k := x.k) hp
    have bl := hx.e
    rw [e] at bl
    obtain ⟨B, hB⟩ : ∃ B, B = A.set i2 (.nd (nput l2 x.k.k (dI (byW P x.k ++ l)))) := ⟨_, rfl⟩
    have fB : Fr [i2] A B := by rw [hB]; exact Fr.set (by simp)
    have bll : l.length ≤ 1000 := bl.2.2
    have ea : ∀ A, oAdd (dI (byW P x.k)) (.tup (l.map D.int)) A = .ok (dI (byW P x.k ++ l)) A := fun A => by
      unfold dI
      rw [z7c (by rw [List.length_map, List.length_map]; omega), List.map_append]
    simp_arith [talk_of_ok, line_at0, line_at5, e, Ev.w, Ev.m, ho, w1, keyN_tk, hw, ea, z8y hl, ← hB]
    refine ⟨by unfold rightP; rw [e], fun r => ?_, fB.mono (by simp)⟩
    refine ⟨fB.get ho (by simpa using d5), ?_, ⟨_, hB ▸ (NdI.put z2 w2 w3), fun q => ?_⟩, ?_, h.d⟩
    · obtain ⟨l', a1, a2, a3⟩ := (h.a.frame fB (by simpa using d1)).more (m := P.length + 1) (by omega)
      refine ⟨l', a1, a2, fun q => ?_⟩
      rw [a3]
      show (own P q).map D.int = (own (P ++ [x]) q).map D.int
      rw [own_snoc]; unfold opE; rw [e]
      simp only
      cases own P q <;> rfl
    · rw [byW_snoc]
      unfold wrE
      rw [e]
      by_cases c2 : x.k = q
      · simp only [if_pos c2, ← c2]; rfl
      · simp only [if_neg c2, List.append_nil]; exact w4 q
    · obtain ⟨f, a1, a2⟩ := h.c
      refine ⟨f, (a1.frame fB (by simpa using d3.symm)).more (by omega), fun k => ?_⟩
      rw [a2, byR_snoc]; unfold rdE; rw [e]; simp
  | rd l =>
    have br := byR_len (k := x.k) hp
    have bl := hx.e
    rw [e] at bl
    have bll : l.length ≤ 1000 := bl.2.2
    obtain ⟨_, A1, e1, b, rfl, hb, hj, fB⟩ := (read_right_ok h (k := x.k) (l := l) hn (by omega)).ex
    have hb : b = rightP P x := by rw [hb]; unfold rightP; rw [e] <;> rfl
    subst hb
    unfold dI at e1
    simp_arith [talk_of_ok, line_at0, line_at5, e, Ev.w, Ev.m, ho, e1]
    refine ⟨fun r => (hj r).congr (fun q => ?_) (fun q => ?_) (fun q => ?_), fB⟩
    · rw [own_snoc]; unfold opE; rw [e]; simp only; cases own P q <;> rfl
    · rw [byW_snoc]; unfold wrE; rw [e]; simp
    · rw [byR_snoc]; unfold rdE; rw [e]
      simp only
      by_cases c2 : x.k = q
      · rw [if_pos c2, if_pos c2, c2]
      · rw [if_neg c2, if_neg c2, List.append_nil]
  | st s =>
    simp_arith [talk_of_ok, line_at0, line_at5, e, Ev.w, Ev.m, ho]
    refine ⟨by unfold rightP; rw [e], fun r => ?_, Fr.refl⟩
    refine IsJ.congr (O := own P) (W := byW P) (R := byR P) ⟨ho, h.a.more (by omega), ?_, ?_, h.d⟩ (fun q => ?_) (fun q => ?_) (fun q => ?_)
    · obtain ⟨f, a1, a2⟩ := h.b; exact ⟨f, a1.more (by omega), a2⟩
    · obtain ⟨f, a1, a2⟩ := h.c; exact ⟨f, a1.more (by omega), a2⟩
    · rw [own_snoc]; unfold opE; rw [e]; simp only; cases own P q <;> rfl
    · rw [byW_snoc]; unfold wrE; rw [e]; simp
    · rw [byR_snoc]; unfold rdE; rw [e]; simp

def mN : Option Nat → D
  | some n => .int (n : Int)
  | none => .non
theorem isJ_new {A : Hs} : make "Judge" F_Judge___init__ [] A = .ok (.ref A.length) (A ++ [.obj "Judge" [("openings", .ref (A.length + 1)), ("written", .ref (A.length + 2)), ("had", .ref (A.length + 3))]] ++ [.nd []] ++ [.nd []] ++ [.nd []]) := by
  unfold make
  have h1 : F_Judge___init__ [.ref A.length] (A ++ [.obj "Judge" []]) = .ok .non (A ++ [.obj "Judge" [("openings", .ref (A.length + 1)), ("written", .ref (A.length + 2)), ("had", .ref (A.length + 3))]] ++ [.nd []] ++ [.nd []] ++ [.nd []]) := by
    unfold F_Judge___init__
    simp_arith []
    simp
  rw [h1]
theorem judged_ok {A : Hs} {b : Nat} {L : List Ln} (hb : A[b]? = some (.lst (L.map Ln.d))) (h : BkOk L) : Rk (F_judged [.ref b] A) fun v A1 => v = mN (fwr [] L) ∧ Fr [] A A1 := by
  obtain ⟨_, A1, e1, rfl, f1⟩ := (need_book_ok hb h).ex
  have hb1 := f1.get hb (by simp)
  have hl := h.l
  have bl := lt_of_get hb1
  obtain ⟨B, hB⟩ : ∃ B, B = A1 ++ [O.obj "Judge" [("openings", .ref (A1.length + 1)), ("written", .ref (A1.length + 2)), ("had", .ref (A1.length + 3))]] ++ [.nd []] ++ [.nd []] ++ [.nd []] := ⟨_, rfl⟩
  have fB : Fr [] A1 B := by rw [hB]; exact Fr.then_push (Fr.then_push (Fr.then_push .push))
  have hbB := fB.get hb1 (by simp)
  have e2 := isJ_new (A := A1)
  rw [← hB] at e2
  have j0 : IsJ B A1.length (A1.length + 1) (A1.length + 2) (A1.length + 3) 0 (own []) (byW []) (byR []) := by
    have g0 : B[A1.length]? = some (O.obj "Judge" [("openings", .ref (A1.length + 1)), ("written", .ref (A1.length + 2)), ("had", .ref (A1.length + 3))]) := by rw [hB]; simp
    have g1 : B[A1.length + 1]? = some (.nd []) := by rw [hB]; simp
    have g2 : B[A1.length + 2]? = some (.nd []) := by rw [hB]; simp
    have g3 : B[A1.length + 3]? = some (.nd []) := by rw [hB]; simp
    exact ⟨g0, ⟨[], g1, Nat.le_refl _, fun _ => rfl⟩, ⟨fun _ => none, ⟨[], g2, Nat.le_refl _, fun _ => rfl⟩, fun _ => rfl⟩, ⟨fun _ => none, ⟨[], g3, Nat.le_refl _, fun _ => rfl⟩, fun _ => rfl⟩, by omega⟩
  unfold F_judged
  simp_arith [e1, z3h, e2, hbB]
  refine for_go (R := fun rs => Rk (finR (seqR rs _)) _) (fun i e C => ∃ o2 o3 : Option D, e = [some (.ref b), some (.ref A1.length), o2, o3] ∧ IsJ C A1.length (A1.length + 1) (A1.length + 2) (A1.length + 3) (L.take i).length (own (L.take i)) (byW (L.take i)) (byR (L.take i)) ∧ Fr [] A1 C ∧ fwr [] L = fwr (L.take i) (L.drop i)) ⟨none, none, rfl, j0, fB, rfl⟩ (fun i e C _ h => by obtain ⟨o2, o3, _, _, fC, _⟩ := h; exact fC.get hb1 (by simp)) ?_ ?_
  · rintro i _ C d hd ⟨o2, o3, rfl, hj, fC, hw⟩
    obtain ⟨x', q1, rfl⟩ := enumL_get hd
    rw [List.getElem?_map] at q1
    obtain ⟨x, hx, rfl⟩ := Option.map_eq_some_iff.mp q1
    have hm : x ∈ L := List.mem_of_getElem? hx
    have hi : i < L.length := (List.getElem?_eq_some_iff.mp hx).1
    have tk : L.take (i + 1) = L.take i ++ [x] := by rw [List.take_succ, hx]; rfl
    have dr : L.drop i = x :: L.drop (i + 1) := by
      obtain ⟨hl', e⟩ := List.getElem?_eq_some_iff.mp hx
      rw [List.drop_eq_getElem_cons hl', e]
    obtain ⟨_, C1, e3, rfl, hj1, f3⟩ := (follow_ok hj (fun y hy => h.x y (List.mem_of_mem_take hy)) (h.x x hm) (by rw [List.length_take]; omega)).ex
    have f3' : Fr [] A1 C1 := fC.trans' f3 (by intro q hq; simp only [List.mem_cons, List.not_mem_nil, or_false] at hq; right; omega)
    have ho := hj.o
    show Got _ _
    simp_arith [ho, e3]
    cases r : rightP (L.take i) x with
    | true =>
      simp_arith []
      rw [tk]
      refine ⟨_, _, rfl, hj1 r, f3', ?_⟩
      rw [hw, dr, fwr, r, if_pos rfl]
    | false =>
      simp_arith []
      refine ⟨?_, f1.trans f3'⟩
      rw [hw, dr, fwr, r, if_neg (by simp), List.length_take]
      show D.int (i : Int) = D.int ((min i L.length : Nat) : Int)
      rw [Nat.min_eq_left (by omega)]
  · rintro _ C ⟨o2, o3, rfl, hj, fC, hw⟩
    rw [enumL_len, List.length_map, List.take_length, List.drop_length] at hw
    simp_arith []
    exact ⟨by rw [hw]; rfl, f1.trans fC⟩

/-! a comprehension over things of one kind -/
theorem lc_of {α : Type} {g : G} {t : Tt} {a : E} {gd : Hs → Prop} {env : Sl} {A : Hs} (f : α → D) (p : α → Bool) (h : α → D) (hgd : gd A) : ∀ {L : List α} {acc : List D}, acc.length + L.length < 16000000 →
    (∀ y ∈ L, Got (g (f y) env A) fun e1 => Rk (t e1 A) fun c A1 => c = p y ∧ A1 = A ∧ (c = true → Rk (a e1 A) fun v A2 => v = h y ∧ A2 = A)) → lcL g t a gd env (L.map f) acc A = .ok (acc ++ (L.filter p).map h) A
  | [], acc, _, _ => by
    rw [List.map_nil]; unfold lcL; rw [if_pos hgd]; simp
  | y :: L, acc, hl, hs => by
    have h1 := hs y List.mem_cons_self
    rw [List.length_cons] at hl
    rw [List.map_cons]
    unfold lcL
    rw [if_pos hgd]
    cases q : g (f y) env A with
    | none => rw [q] at h1; exact h1.elim
    | some e1 =>
      rw [q] at h1
      obtain ⟨c, A1, e2, hc, rfl, h3⟩ := Rk.ex h1
      simp only [e2]
      have hs' := fun z hz => hs z (List.mem_cons_of_mem _ hz)
      cases c with
      | true =>
        obtain ⟨v, A2, e4, rfl, rfl⟩ := (h3 rfl).ex
        simp only [e4]
        rw [if_pos (by rw [sizeLine_eq]; omega), lc_of f p h hgd (by simp; omega) hs', List.filter_cons, ← hc, if_pos rfl]
        simp
      | false =>
        show lcL g t a gd env (L.map f) acc A1 = _
        rw [lc_of (acc := acc) f p h hgd (by omega) hs', List.filter_cons, ← hc, if_neg (by simp)]
/-! the law's own way of judging a line -/
def isOp (x : Ln) : Bool := match x.e with
  | .op _ => true
  | _ => false
def opv (x : Ln) : Int := match x.e with
  | .op o => o
  | _ => 0
def opsOf (P : List Ln) : List Ln := P.filter isOp
def exL (P : List Ln) (q : Tk) (f : Int) : Bool := (opsOf P).any fun y => decide (y.k = q) && decide (opv y = f)
def rightL (P : List Ln) (x : Ln) : Bool := match x.e with
  | .op _ => ((opsOf P).filter fun y => decide (y.k = x.k)).isEmpty
  | .rd _ => match (opsOf P).filter fun y => decide (y.k = x.k) with
    | [] => false
    | y :: _ => if exL P (ptn x.k (opv y)) x.k.f then goesOn (byW P (ptn x.k (opv y))) (byR (P ++ [x]) x.k) else false
  | _ => true
theorem wd_op {x : Ln} : decide (x.e.w = "opened") = isOp x := by
  unfold isOp; cases x.e <;> rfl
theorem bytes_rd {A : Hs} {b : Nat} {L : List Ln} {k : Tk} (hb : A[b]? = some (.lst (L.map Ln.d))) (h : ∀ x ∈ L, LnOk x) (hn : L.length ≤ 1000) : F_l_bytes [.ref b, dS "read", k.d] A = .ok (dI (byR L k)) A := by
  suffices H : Rk (F_l_bytes [.ref b, dS "read", k.d] A) fun v A1 => v = dI (byR L k) ∧ A1 = A by
    obtain ⟨_, _, e, rfl, rfl⟩ := H.ex
    exact e
  unfold F_l_bytes
  simp_arith [hb]
  refine for_go (R := fun rs => Rk (finR (seqR rs _)) _) (fun i e C => ∃ o4 : Option D, e = [some (.ref b), some (dS "read"), some k.d, some (dI (byR (L.take i) k)), o4] ∧ C = A) ⟨none, rfl, rfl⟩ (fun _ _ _ _ h => by obtain ⟨_, _, rfl⟩ := h; exact hb) ?_ ?_
  · rintro i _ C d hd ⟨o4, rfl, rfl⟩
    rw [List.getElem?_map] at hd
    obtain ⟨x, hx, rfl⟩ := Option.map_eq_some_iff.mp hd
    have tk : L.take (i + 1) = L.take i ++ [x] := by rw [List.take_succ, hx]; rfl
    have hl := byR_len (P := L.take i) (k := k) fun y hy => h y (List.mem_of_mem_take hy)
    rw [List.length_take] at hl
    have hk := (h x (List.mem_of_getElem? hx)).e
    show Got _ _
    rw [tk]
    cases e : x.e with
    | rd l =>
      rw [e] at hk
      have hk2 : l.length ≤ 1000 := hk.2.2
      have ea : oAdd (dI (byR (L.take i) k)) (.tup (l.map D.int)) C = .ok (dI (byR (L.take i) k ++ l)) C := by
        unfold dI
        rw [z7c (by rw [List.length_map, List.length_map]; omega), List.map_append]
      by_cases c : x.k = k
      · simp_arith [line_at0, line_at5, line_25, oEq_tk, e, Ev.w, Ev.m, c, ea]
        refine ⟨some x.d, ?_⟩
        simp [byR_snoc, rdE, e, c]
      · simp_arith [line_at0, line_at5, line_25, oEq_tk, e, Ev.w, Ev.m, c]
        refine ⟨some x.d, ?_⟩
        simp [byR_snoc, rdE, e, c]
    | _ =>
      simp_arith [line_at0, line_at5, line_25, oEq_tk, e, Ev.w, Ev.m]
      refine ⟨some x.d, ?_⟩
      simp [byR_snoc, rdE, e]
  · rintro _ C ⟨o4, rfl, rfl⟩
    rw [List.length_map, List.take_length]
    simp_arith []
theorem bytes_wr {A : Hs} {b : Nat} {L : List Ln} {k : Tk} (hb : A[b]? = some (.lst (L.map Ln.d))) (h : ∀ x ∈ L, LnOk x) (hn : L.length ≤ 1000) : F_l_bytes [.ref b, dS "wrote", k.d] A = .ok (dI (byW L k)) A := by
  suffices H : Rk (F_l_bytes [.ref b, dS "wrote", k.d] A) fun v A1 => v = dI (byW L k) ∧ A1 = A by
    obtain ⟨_, _, e, rfl, rfl⟩ := H.ex
    exact e
  unfold F_l_bytes
  simp_arith [hb]
  refine for_go (R := fun rs => Rk (finR (seqR rs _)) _) (fun i e C => ∃ o4 : Option D, e = [some (.ref b), some (dS "wrote"), some k.d, some (dI (byW (L.take i) k)), o4] ∧ C = A) ⟨none, rfl, rfl⟩ (fun _ _ _ _ h => by obtain ⟨_, _, rfl⟩ := h; exact hb) ?_ ?_
  · rintro i _ C d hd ⟨o4, rfl, rfl⟩
    rw [List.getElem?_map] at hd
    obtain ⟨x, hx, rfl⟩ := Option.map_eq_some_iff.mp hd
    have tk : L.take (i + 1) = L.take i ++ [x] := by rw [List.take_succ, hx]; rfl
    have hl := byW_len (P := L.take i) (k := k) fun y hy => h y (List.mem_of_mem_take hy)
    rw [List.length_take] at hl
    have hk := (h x (List.mem_of_getElem? hx)).e
    show Got _ _
    rw [tk]
    cases e : x.e with
    | wr l =>
      rw [e] at hk
      have hk2 : l.length ≤ 1000 := hk.2.2
      have ea : oAdd (dI (byW (L.take i) k)) (.tup (l.map D.int)) C = .ok (dI (byW (L.take i) k ++ l)) C := by
        unfold dI
        rw [z7c (by rw [List.length_map, List.length_map]; omega), List.map_append]
      by_cases c : x.k = k
      · simp_arith [line_at0, line_at5, line_25, oEq_tk, e, Ev.w, Ev.m, c, ea]
        refine ⟨some x.d, ?_⟩
        simp [byW_snoc, wrE, e, c]
      · simp_arith [line_at0, line_at5, line_25, oEq_tk, e, Ev.w, Ev.m, c]
        refine ⟨some x.d, ?_⟩
        simp [byW_snoc, wrE, e, c]
    | _ =>
      simp_arith [line_at0, line_at5, line_25, oEq_tk, e, Ev.w, Ev.m]
      refine ⟨some x.d, ?_⟩
      simp [byW_snoc, wrE, e]
  · rintro _ C ⟨o4, rfl, rfl⟩
    rw [List.length_map, List.take_length]
    simp_arith []
theorem partner_ok {x : Ln} {o : Int} {A : Hs} (e : x.e = .op o) : F_l_partner [x.d] A = .ok (.tup [.int x.k.a, .tup [.int x.k.p, .int x.k.c, .int x.k.b], .int o, .int x.k.f]) A := by
  unfold F_l_partner Ln.d
  simp_arith [e, Ev.m]
def q4 (k : Tk) (o : Int) : D := .tup [.int k.p, .tup [.int k.a, .int k.b, .int k.c], .int k.f, .int o]
def p4 (k : Tk) (o : Int) : PyData := .tuple [.int k.p, .tuple [.int k.a, .int k.b, .int k.c], .int k.f, .int o]
theorem eqv_p4 {k l : Tk} {o p : Int} : PyData.eqv (p4 k o) (p4 l p) = (decide (k = l) && decide (o = p)) := by
  unfold p4
  simp only [PyData.eqv, PyData.eqvAll, Bool.and_true]
  rw [Bool.eq_iff_iff]
  simp only [Bool.and_eq_true, beq_iff_eq, decide_eq_true_eq]
  constructor
  · rintro ⟨h1, ⟨h2, h3, h4⟩, h5, h6⟩
    exact ⟨by cases k; cases l; simp_all, h6⟩
  · rintro ⟨rfl, rfl⟩; simp
theorem in_q4 {L : List Ln} {q : Tk} {f : Int} {A : Hs} : inl_ A (q4 q f) (L.map fun y => q4 y.k (opv y)) true = .ok (.bl (!(L.any fun y => decide (y.k = q) && decide (opv y = f)))) A := by
  unfold inl_
  have e1 : pyA A 40 (q4 q f) = some (p4 q f) := rfl
  have e2 : allSome ((L.map fun y => q4 y.k (opv y)).map (pyA A 39)) = some (L.map fun y => p4 y.k (opv y)) := by
    induction L with
    | nil => rfl
    | cons x l ih =>
      rw [List.map_cons, List.map_cons, List.map_cons]
      have : pyA A 39 (q4 x.k (opv x)) = some (p4 x.k (opv x)) := rfl
      rw [this, allSome, ih]; rfl
  rw [e1, e2]
  simp only [List.any_map, if_true]
  have : ((fun z => z.eqv (p4 q f)) ∘ fun y : Ln => p4 y.k (opv y)) = fun y => decide (y.k = q) && decide (opv y = f) := by
    funext y
    exact eqv_p4
  rw [this]
def pyM : Ev → PyData
  | .op o => .int o | .wr l => .tuple (l.map .int) | .rd l => .tuple (l.map .int) | .st s => .str (fS s)
def pyLn (x : Ln) : PyData := .tuple [.str (fS x.e.w), .int x.t, .int x.k.p, .tuple [.int x.k.a, .int x.k.b, .int x.k.c], .int x.k.f, pyM x.e]
theorem py_its {l : List Int} {A : Hs} {n : Nat} : allSome ((l.map D.int).map (pyA A n)) = some (l.map .int) := by
  induction l with
  | nil => rfl
  | cons x l ih =>
    rw [List.map_cons, List.map_cons]
    have : pyA A n (.int x) = some (.int x) := by rw [pyA]
    rw [this, allSome, ih]; rfl
theorem py_ln {x : Ln} {A : Hs} {n : Nat} : pyA A (n + 3) x.d = some (pyLn x) := by
  have e : pyA A (n + 2) x.e.m = some (pyM x.e) := by
    cases x.e with
    | op o => rw [Ev.m, pyA]; rfl
    | st s => show pyA A (n + 2) (.str (fS s)) = _; rw [pyA]; rfl
    | wr l => show (allSome ((l.map D.int).map (pyA A (n + 1)))).map PyData.tuple = _; rw [py_its]; rfl
    | rd l => show (allSome ((l.map D.int).map (pyA A (n + 1)))).map PyData.tuple = _; rw [py_its]; rfl
  show (allSome ([dS x.e.w, .int x.t, .int x.k.p, .tup [.int x.k.a, .int x.k.b, .int x.k.c], .int x.k.f, x.e.m].map (pyA A (n + 2)))).map PyData.tuple = _
  simp only [List.map_cons, List.map_nil, e]
  rfl
theorem py_lns {N : List Ln} {A : Hs} {n : Nat} : allSome ((N.map Ln.d).map (pyA A (n + 3))) = some (N.map pyLn) := by
  induction N with
  | nil => rfl
  | cons x l ih => rw [List.map_cons, List.map_cons, py_ln, allSome, ih]; rfl
theorem own_nil {N : List Ln} {B : Hs} {r s : Nat} (h : B[r]? = some (.lst (N.map Ln.d))) (k : B[s]? = some (.lst [])) : oEq (.ref r) (.ref s) B = .ok (.bl N.isEmpty) B := by
  refine eqA_of ?_
  unfold eqA
  rw [py_lst h, py_lst k, py_lns]
  cases N with
  | nil => rfl
  | cons x N => simp [allSome, PyData.eqv, PyData.eqvAll]
theorem line_right_ok {A : Hs} {b n : Nat} {L : List Ln} {x : Ln} (hb : A[b]? = some (.lst (L.map Ln.d))) (h : ∀ x ∈ L, LnOk x) (hn : L.length ≤ 1000) (hx : L[n]? = some x) :
    Rk (F_l_line_right [.ref b, .int n] A) fun v A1 => v = .bl (rightL (L.take n) x) ∧ Fr [] A A1 := by
  have bl := lt_of_get hb
  have nl := (List.getElem?_eq_some_iff.mp hx).1
  have e1 : oIx (.ref b) (.int (n : Int)) A = .ok x.d A := by
    simp_arith [hb]
    rw [List.getElem?_map, show ((n : Int)).toNat = n by omega, hx]; rfl
  have s1 : List.take (n : Int).toNat (L.map Ln.d) = (L.take n).map Ln.d := by rw [show ((n : Int)).toNat = n by omega, List.map_take]
  have lt1 : (L.take n).length ≤ 1000 := by rw [List.length_take]; omega
  obtain ⟨P, hP⟩ : ∃ P, P = L.take n := ⟨_, rfl⟩
  have hPok : ∀ y ∈ P, LnOk y := fun y hy => h y (List.mem_of_mem_take (hP ▸ hy))
  rw [← hP] at s1 lt1 ⊢
  obtain ⟨A1, hA1⟩ : ∃ A1, A1 = A ++ [O.lst (P.map Ln.d)] := ⟨_, rfl⟩
  have f1 : Fr [] A A1 := by rw [hA1]; exact .push
  have g1 : A1[A.length]? = some (.lst (P.map Ln.d)) := by rw [hA1]; simp
  have k1 := fun env => lc_of (g := gN 4) (t := tOf (eOp oEq (eOp oIx (eVar 4) (eC (.int 0))) (eC (dS "opened")))) (a := eVar 4) (gd := fun A' => A'[A.length]? = some (.lst (P.map Ln.d))) (env := [some (.ref b), some (.int n), some x.d, none, none, env, none, none]) (A := A1) Ln.d isOp Ln.d g1 (L := P) (acc := []) (by simp; omega) (fun y hy => by
    show Got _ _
    simp_arith [line_at0, wd_op]
    exact fun _ => trivial)
  have k1 := k1 none
  rw [List.nil_append] at k1
  obtain ⟨Q, hQ⟩ : ∃ Q, Q = opsOf P := ⟨_, rfl⟩
  have lq : Q.length ≤ 1000 := by rw [hQ]; exact Nat.le_trans (List.length_filter_le _ _) lt1
  have k1' : lcL (gN 4) (tOf (eOp oEq (eOp oIx (eVar 4) (eC (.int 0))) (eC (dS "opened")))) (eVar 4) (fun A' => A'[A.length]? = some (.lst (P.map Ln.d))) [some (.ref b), some (.int n), some x.d, none, none, none, none, none] (P.map Ln.d) [] A1 = .ok (Q.map Ln.d) A1 := by rw [hQ]; exact k1
  obtain ⟨A2, hA2⟩ : ∃ A2, A2 = A1 ++ [O.lst (Q.map Ln.d)] := ⟨_, rfl⟩
  have f2 : Fr [] A1 A2 := by rw [hA2]; exact .push
  have l1 : A1.length = A.length + 1 := by rw [hA1]; simp
  have g2 : A2[A.length + 1]? = some (.lst (Q.map Ln.d)) := by rw [hA2, ← l1]; simp
  have k2 := lc_of (g := gN 4) (t := tOf (eOp oEq (eSl oSl (eVar 4) (oSo (eC (.int 2))) (oSo (eC (.int 5)))) (eSl oSl (eVar 2) (oSo (eC (.int 2))) (oSo (eC (.int 5)))))) (a := eVar 4) (gd := fun A' => A'[A.length + 1]? = some (.lst (Q.map Ln.d))) (env := [some (.ref b), some (.int n), some x.d, some (.ref (A.length + 1)), none, none, none, none]) (A := A2) Ln.d (fun y => decide (y.k = x.k)) Ln.d g2 (L := Q) (acc := []) (by simp; omega) (fun y hy => by
    show Got _ _
    simp_arith [line_25, oEq_tk]
    exact fun _ => trivial)
  rw [List.nil_append] at k2
  obtain ⟨N, hN⟩ : ∃ N, N = Q.filter fun y => decide (y.k = x.k) := ⟨_, rfl⟩
  rw [← hN] at k2
  obtain ⟨A3, hA3⟩ : ∃ A3, A3 = A2 ++ [O.lst (N.map Ln.d)] := ⟨_, rfl⟩
  have f3 : Fr [] A2 A3 := by rw [hA3]; exact .push
  have l2 : A2.length = A.length + 2 := by rw [hA2]; simp [l1]
  have g3 : A3[A.length + 2]? = some (.lst (N.map Ln.d)) := by rw [hA3, ← l2]; simp
  have g2' := f3.get g2 (by simp)
  have hb3 := ((f1.trans f2).trans f3).get hb (by simp)
  have fr3 := (f1.trans f2).trans f3
  have on : ∀ C s, C[A.length + 2]? = some (.lst (N.map Ln.d)) → C[s]? = some (.lst []) → oEq (.ref (A.length + 2)) (.ref s) C = .ok (.bl N.isEmpty) C := fun C s h k => own_nil h k
  have l3 : A3.length = A.length + 3 := by rw [hA3]; simp [l2]
  have on1 : oEq (.ref (A.length + 2)) (.ref (A.length + 3)) (A3 ++ [O.lst []]) = .ok (.bl N.isEmpty) (A3 ++ [O.lst []]) := on _ _ (by rw [List.getElem?_append_left (by omega)]; exact g3) (by rw [← l3]; simp)
  unfold F_l_line_right
  cases e : x.e with
  | op o =>
    simp_arith [e1, hb, s1, ← hA1, g1, k1', ← hA2, l1, g2, k2, ← hA3, l2, line_at0, e, Ev.w, l3, on1]
    refine ⟨?_, Fr.then_push fr3⟩
    unfold rightL
    rw [e]
    simp only
    rw [hN, hQ]
  | wr l =>
    simp_arith [e1, hb, s1, ← hA1, g1, k1', ← hA2, l1, g2, k2, ← hA3, l2, line_at0, e, Ev.w]
    exact ⟨by unfold rightL; rw [e], fr3⟩
  | st l =>
    simp_arith [e1, hb, s1, ← hA1, g1, k1', ← hA2, l1, g2, k2, ← hA3, l2, line_at0, e, Ev.w]
    exact ⟨by unfold rightL; rw [e], fr3⟩
  | rd l =>
    cases hNc : N with
    | nil =>
      rw [hNc] at on1
      simp_arith [e1, hb, s1, ← hA1, g1, k1', ← hA2, l1, g2, k2, ← hA3, l2, line_at0, e, Ev.w, l3, on1, List.isEmpty_nil]
      refine ⟨?_, Fr.then_push fr3⟩
      unfold rightL
      rw [e]
      simp only
      rw [← hQ, ← hN, hNc]
    | cons y N' =>
      have hy : y ∈ N := by rw [hNc]; exact List.mem_cons_self
      have hy2 : y ∈ opsOf P := by rw [hN] at hy; rw [← hQ]; exact (List.mem_filter.mp hy).1
      have hyk : y.k = x.k := by rw [hN] at hy; simpa using (List.mem_filter.mp hy).2
      obtain ⟨o, ho⟩ : ∃ o, y.e = .op o := by
        have := (List.mem_filter.mp hy2).2
        unfold isOp at this
        cases q : y.e with
        | op o => exact ⟨o, rfl⟩
        | _ => rw [q] at this; cases this
      have ov : opv y = o := by unfold opv; rw [ho]
      rw [hNc] at on1 g3
      obtain ⟨A4, hA4⟩ : ∃ A4, A4 = A3 ++ [O.lst []] := ⟨_, rfl⟩
      have f4 : Fr [] A3 A4 := by rw [hA4]; exact .push
      have l4 : A4.length = A.length + 4 := by rw [hA4]; simp [l3]
      rw [← hA4] at on1
      have g34 := f4.get g3 (by simp)
      have g24 := f4.get g2' (by simp)
      have hb4 := f4.get hb3 (by simp)
      have p1 : ∀ C, F_l_partner [y.d] C = .ok (q4 (ptn x.k o) x.k.f) C := fun C => by rw [partner_ok ho, hyk]; rfl
      have k4 := lc_of (g := gN 4) (t := tYe) (a := eSl oSl (eVar 4) (oSo (eC (.int 2))) oNo) (gd := fun A' => A'[A.length + 1]? = some (.lst (Q.map Ln.d))) (env := [some (.ref b), some (.int n), some x.d, some (.ref (A.length + 1)), none, some (.ref (A.length + 2)), none, none]) (A := A4) Ln.d (fun _ => true) (fun y => q4 y.k (opv y)) g24 (L := Q) (acc := []) (by simp; omega) (fun z hz => by
        show Got _ _
        simp_arith [line_2]
        intro _
        rw [hQ] at hz
        have := (List.mem_filter.mp hz).2
        unfold isOp at this
        unfold q4 opv
        cases q : z.e with
        | op o => rfl
        | _ => rw [q] at this; cases this)
      rw [List.nil_append, List.filter_eq_self.mpr (by simp)] at k4
      obtain ⟨A5, hA5⟩ : ∃ A5, A5 = A4 ++ [O.lst (Q.map fun y => q4 y.k (opv y))] := ⟨_, rfl⟩
      have f5 : Fr [] A4 A5 := by rw [hA5]; exact .push
      have l5 : A5.length = A.length + 5 := by rw [hA5]; simp [l4]
      have g5 : A5[A.length + 4]? = some (.lst (Q.map fun y => q4 y.k (opv y))) := by rw [hA5, ← l4]; simp
      have g35 := f5.get g34 (by simp)
      have hb5 := f5.get hb4 (by simp)
      have n5 := in_q4 (L := Q) (q := ptn x.k o) (f := x.k.f) (A := A5)
      have ex : (Q.any fun y => decide (y.k = ptn x.k o) && decide (opv y = x.k.f)) = exL P (ptn x.k o) x.k.f := by rw [hQ]; rfl
      rw [ex] at n5
      have i3 : ∀ {l : List D}, (y :: N').map Ln.d = y.d :: N'.map Ln.d := rfl
      have fr5 := (fr3.trans f4).trans f5
      have rl : rightL P x = if exL P (ptn x.k o) x.k.f then goesOn (byW P (ptn x.k o)) (byR (P ++ [x]) x.k) else false := by
        unfold rightL
        rw [e]
        simp only
        rw [← hQ, ← hN, hNc]
        simp only [ov]
      have q43 : ∀ C, oSl (q4 (ptn x.k o) x.k.f) none (some 3) C = .ok (ptn x.k o).d C := fun C => by
        unfold q4
        simp_arith []
        rfl
      have tkx : List.take (((n : Int) + 1).toNat) (L.map Ln.d) = (P ++ [x]).map Ln.d := by
        rw [show ((n : Int) + 1).toNat = n + 1 by omega, ← List.map_take, List.take_succ, hx, hP]; rfl
      rw [rl]
      cases c : exL P (ptn x.k o) x.k.f with
      | false =>
        rw [c] at n5
        have g35' : A4[A.length + 2]? = some (.lst (y.d :: N'.map Ln.d)) := g34
        simp_arith [e1, hb, s1, ← hA1, g1, k1', ← hA2, l1, g2, k2, ← hA3, l2, line_at0, e, Ev.w, l3, on1, List.isEmpty_cons, ← hA4, g35', p1, k4, g24, ← hA5, l4, g5, n5]
        exact fr5
      | true =>
        rw [c] at n5
        have g35' : A4[A.length + 2]? = some (.lst (y.d :: N'.map Ln.d)) := g34
        have g55 : A5[A.length + 2]? = some (.lst (y.d :: N'.map Ln.d)) := g35
        obtain ⟨A6, hA6⟩ : ∃ A6, A6 = A5 ++ [O.lst ((P ++ [x]).map Ln.d)] := ⟨_, rfl⟩
        have f6 : Fr [] A5 A6 := by rw [hA6]; exact .push
        have g6 : A6[A.length + 5]? = some (.lst ((P ++ [x]).map Ln.d)) := by rw [hA6, ← l5]; simp
        have l6 : A6.length = A.length + 6 := by rw [hA6]; simp [l5]
        have hb6 := f6.get hb5 (by simp)
        have hx' := h x (List.mem_of_getElem? hx)
        have r6 := bytes_rd (k := x.k) g6 (fun z hz => by rcases List.mem_append.mp hz with q | q; exact hPok z q; rw [List.mem_singleton] at q; rw [q]; exact hx') (by have := lt1; rw [hP, List.length_take] at this; rw [List.length_append, hP, List.length_take, List.length_singleton]; omega)
        obtain ⟨A7, hA7⟩ : ∃ A7, A7 = A6 ++ [O.lst (P.map Ln.d)] := ⟨_, rfl⟩
        have f7 : Fr [] A6 A7 := by rw [hA7]; exact .push
        have g7 : A7[A.length + 6]? = some (.lst (P.map Ln.d)) := by rw [hA7, ← l6]; simp
        have r7 := bytes_wr (k := ptn x.k o) g7 hPok lt1
        obtain ⟨hd, hhd⟩ : ∃ hd, hd = byR (P ++ [x]) x.k := ⟨_, rfl⟩
        rw [← hhd] at r6 ⊢
        have el : ∀ A, oLen (dI hd) A = .ok (.int (hd.length : Nat)) A := fun A => by
          unfold dI
          rw [z65, List.length_map]
        have es : ∀ A, oSl (dI (byW P (ptn x.k o))) none (some (hd.length : Nat)) A = .ok (dI ((byW P (ptn x.k o)).take hd.length)) A := fun A => by
          unfold dI
          rw [z91, z78 (by omega), ← List.map_take]
          rfl
        have eq : ∀ A, oEq (dI ((byW P (ptn x.k o)).take hd.length)) (dI hd) A = .ok (.bl (goesOn (byW P (ptn x.k o)) hd)) A := fun A => oEq_its
        simp_arith [e1, hb, s1, ← hA1, g1, k1', ← hA2, l1, g2, k2, ← hA3, l2, line_at0, e, Ev.w, l3, on1, List.isEmpty_cons, ← hA4, g35', p1, k4, g24, ← hA5, l4, g5, n5, g55, q43, hb5, tkx, ← hA6, l5, line_25, r6, hb6, ← hA7, l6, r7, el, es, eq]
        exact (fr5.trans f6).trans f7

/-! the first wrong line, by the law and by the program -/
def badL (L : List Ln) (n : Nat) : Bool := match L[n]? with
  | some x => !rightL (L.take n) x
  | none => false
/-- no talk is opened twice -/
def OneOp (P : List Ln) : Prop := ∀ (k : Tk), ((opsOf P).filter fun y => decide (y.k = k)).length ≤ 1
theorem own_eq {P : List Ln} {k : Tk} : own P k = (((opsOf P).filter fun y => decide (y.k = k)).head?).map opv := by
  unfold own opsOf
  induction P with
  | nil => rfl
  | cons x P ih =>
    rw [List.findSome?_cons, List.filter_cons]
    unfold isOp at ih ⊢
    cases e : x.e with
    | op o =>
      simp only [opE, e, if_true]
      rw [List.filter_cons]
      by_cases c : x.k = k
      · simp [c, opv, e]
      · simp only [c, if_false, decide_false]
        exact ih
    | _ =>
      simp only [opE, e, Bool.false_eq_true, if_false]
      exact ih
theorem exL_own {P : List Ln} {q : Tk} {f : Int} (h : OneOp P) : exL P q f = decide (own P q = some f) := by
  rw [own_eq]
  unfold exL
  have h1 := h q
  obtain ⟨N, hN⟩ : ∃ N, N = (opsOf P).filter fun y => decide (y.k = q) := ⟨_, rfl⟩
  have e : ((opsOf P).any fun y => decide (y.k = q) && decide (opv y = f)) = N.any fun y => decide (opv y = f) := by
    rw [hN, List.any_filter]
  rw [e, ← hN]
  rw [← hN] at h1
  match N, h1 with
  | [], _ => simp
  | [y], _ => simp
theorem right_eq {P : List Ln} {x : Ln} (h : OneOp P) : rightL P x = rightP P x := by
  unfold rightL rightP
  cases e : x.e with
  | op o =>
    simp only
    rw [own_eq]
    cases (opsOf P).filter fun y => decide (y.k = x.k) <;> rfl
  | rd l =>
    simp only
    have o1 := own_eq (P := P) (k := x.k)
    rw [o1]
    cases (opsOf P).filter fun y => decide (y.k = x.k) with
    | nil => rfl
    | cons y N =>
      simp only [List.head?_cons, Option.map_some]
      rw [exL_own h]
      have br : byR (P ++ [x]) x.k = byR P x.k ++ l := by rw [byR_snoc]; unfold rdE; rw [e]; simp
      rw [br]
      by_cases c : own P (ptn x.k (opv y)) = some x.k.f
      · rw [decide_eq_true c, if_pos rfl, if_pos c]
      · rw [decide_eq_false c, if_neg (by simp), if_neg c]
  | _ => rfl
theorem oneOp_snoc {P : List Ln} {x : Ln} (h : OneOp P) (r : rightP P x = true) : OneOp (P ++ [x]) := by
  intro k
  unfold opsOf
  rw [List.filter_append, List.filter_append, List.length_append]
  have h1 := h k
  unfold opsOf at h1
  cases e : x.e with
  | op o =>
    unfold rightP at r
    rw [e] at r
    simp only at r
    by_cases c : x.k = k
    · have z : ((P.filter isOp).filter fun y => decide (y.k = k)) = [] := by
        rw [own_eq, c] at r
        unfold opsOf at r
        cases q : (P.filter isOp).filter fun y => decide (y.k = k) with
        | nil => rfl
        | cons y N => rw [q] at r; cases r
      rw [z]
      have : (([x].filter isOp).filter fun y => decide (y.k = k)).length ≤ 1 := Nat.le_trans (List.length_filter_le _ _) (List.length_filter_le _ _)
      simpa using this
    · simp [c]
      have : ([x].filter isOp).filter (fun y => decide (y.k = k)) = [] := by
        simp only [List.filter_cons, List.filter_nil]
        split <;> simp [c]
      simpa [this] using h1
  | _ =>
    have : [x].filter isOp = [] := by simp [List.filter_cons, isOp, e]
    rw [this]; simpa using h1
theorem bad_eq : ∀ {r P : List Ln}, OneOp P → ((List.range' P.length r.length).filter (badL (P ++ r))).head? = fwr P r
  | [], P, _ => rfl
  | x :: r, P, h => by
    rw [fwr, List.length_cons, List.range'_succ, List.filter_cons]
    have e : badL (P ++ x :: r) P.length = !rightP P x := by
      unfold badL
      rw [List.getElem?_append_right (Nat.le_refl _), Nat.sub_self, List.getElem?_cons_zero]
      simp only
      rw [List.take_append_of_le_length (Nat.le_refl _), List.take_length, right_eq h]
    rw [e]
    cases c : rightP P x with
    | true =>
      have := bad_eq (r := r) (P := P ++ [x]) (oneOp_snoc h c)
      rw [List.append_assoc] at this
      simp only [Bool.not_true, Bool.false_eq_true, if_false, if_true]
      rw [← this]
      simp
    | false => simp
theorem due_eq {L : List Ln} : ((List.range L.length).filter (badL L)).head? = fwr [] L := by
  have := bad_eq (r := L) (P := []) (fun k => by simp [opsOf])
  rw [List.nil_append] at this
  rw [← this, List.range_eq_range']
  rfl
theorem fwr_lt : ∀ {r P : List Ln} {i : Nat}, fwr P r = some i → P.length ≤ i ∧ i < P.length + r.length
  | [], P, i, h => by cases h
  | x :: r, P, i, h => by
    rw [fwr] at h
    split at h
    · have := fwr_lt h
      simp at this
      simp
      omega
    · cases h; simp
theorem fwr_take : ∀ {r P : List Ln} {m : Nat}, fwr P (r.take m) = match fwr P r with
    | some i => if i < P.length + m then some i else none
    | none => none
  | [], P, m => by simp [fwr]
  | x :: r, P, 0 => by
    rw [List.take_zero]
    cases q : fwr P (x :: r) with
    | none => rfl
    | some i =>
      have := fwr_lt q
      simp only
      rw [if_neg (by omega)]; rfl
  | x :: r, P, m + 1 => by
    rw [List.take_succ_cons, fwr, fwr]
    split
    · rw [fwr_take (m := m)]
      simp only [List.length_append, List.length_singleton]
      have : ∀ i : Nat, (i < P.length + 1 + m) = (i < P.length + (m + 1)) := fun i => by rw [show P.length + 1 + m = P.length + (m + 1) by omega]
      simp only [this]
    · simp
theorem law_due_ok {A : Hs} {b : Nat} {L : List Ln} (hb : A[b]? = some (.lst (L.map Ln.d))) (h : BkOk L) : Rk (F_l_due [.ref b] A) fun v A1 => v = mN (fwr [] L) ∧ Fr [] A A1 := by
  have hl := h.l
  have R := lc_run (A := A) (g := gN 2) (t := tNo (tOf (eCall0 F_l_line_right (aCons (eVar 0) (aCons (eVar 2) aNil))))) (a := eVar 2) (gd := tt) (env := [some (.ref b), none, none]) (ds := rgL 0 1 L.length) (fun i l B => l = ((List.range i).filter (badL L)).map (fun n : Nat => D.int n) ∧ Fr [] A B) ⟨rfl, Fr.refl⟩ (by rw [rgL_len]; omega) (fun _ _ _ _ => trivial) (by
    rintro i d hd l B ⟨rfl, fB⟩
    obtain ⟨rfl, hi⟩ := rgL_get hd
    obtain ⟨x, hx⟩ : ∃ x, L[i]? = some x := ⟨_, List.getElem?_eq_getElem hi⟩
    have hbB := fB.get hb (by simp)
    obtain ⟨_, B1, e, rfl, f⟩ := (line_right_ok hbB h.x hl hx).ex
    have e' : F_l_line_right [.ref b, .int (0 + (i : Nat) * 1)] B = .ok (.bl (rightL (L.take i) x)) B1 := by
      rw [show (0 + (i : Int) * 1) = (i : Int) by omega]; exact e
    have bd : badL L i = !rightL (L.take i) x := by unfold badL; rw [hx]
    show Got _ _
    simp_arith [e']
    rw [List.range_succ, List.filter_append, List.map_append]
    cases c : rightL (L.take i) x with
    | true =>
      rw [c] at bd
      simp only [Bool.not_true]
      refine ⟨?_, fB.trans f⟩
      simp [List.filter_cons, bd]
    | false =>
      rw [c] at bd
      simp only [Bool.not_false]
      simp_arith []
      refine ⟨?_, fB.trans f⟩
      simp [List.filter_cons, bd])
  rw [rgL_len] at R
  obtain ⟨_, A1, e1, rfl, f1⟩ := R.ex
  have ll : (((List.range L.length).filter (badL L)).map (fun n : Nat => D.int n)).length ≤ 1000 := by
    rw [List.length_map]
    exact Nat.le_trans (List.length_filter_le _ _) (by rw [List.length_range]; exact hl)
  obtain ⟨N, hN⟩ : ∃ N, N = (List.range L.length).filter (badL L) := ⟨_, rfl⟩
  rw [← hN] at e1 ll
  have hd : N.head? = fwr [] L := by rw [hN]; exact due_eq
  have at0 : (N.map (fun n : Nat => D.int n) ++ [D.non])[0]? = some (mN (fwr [] L)) := by
    rw [← hd]
    cases N <;> rfl
  unfold F_l_due
  rw [← (show ((L.length : Nat) : Int).toNat = L.length by omega)] at e1
  have as : ∀ B : Hs, ad_ B (some (N.map (fun n : Nat => D.int n))) (some [D.non]) = .ok (.ref B.length) (B ++ [.lst (N.map (fun n : Nat => D.int n) ++ [D.non])]) := fun B => zbb (by simp only [List.length_cons, List.length_nil]; omega)
  simp_arith [hb, e1, as, at0]
  exact Fr.then_push (Fr.then_push (Fr.then_push f1))

/-! how the law makes its book: cells, digits, pairs -/
theorem cells_ok {ns : List Int} {A : Hs} : ∃ cs : List Int, ∃ r A1, F_l_cells [.scr (ns.map D.int)] A = .ok (.ref r) A1 ∧ A1[r]? = some (.lst (cs.map D.int)) ∧ cs.length ≤ 63 ∧ Fr [] A A1 := by
  suffices H : Rk (F_l_cells [.scr (ns.map D.int)] A) fun v A1 => ∃ cs : List Int, ∃ r, v = .ref r ∧ A1[r]? = some (.lst (cs.map D.int)) ∧ cs.length ≤ 63 ∧ Fr [] A A1 by
    obtain ⟨_, A1, e, cs, r, rfl, h⟩ := H.ex
    exact ⟨cs, r, A1, e, h⟩
  unfold F_l_cells
  simp_arith []
  obtain ⟨B, hB⟩ : ∃ B, B = A ++ [O.lst []] ++ [O.lst (List.take 63 (List.map D.int ns))] := ⟨_, rfl⟩
  have fB : Fr [] A B := by rw [hB]; exact Fr.then_push .push
  have b0 : B[A.length]? = some (.lst (([] : List Int).map D.int)) := by rw [hB]; simp
  have b1 : B[A.length + 1]? = some (.lst (List.take 63 (List.map D.int ns))) := by rw [hB]; simp
  rw [← hB]
  refine for_go (R := fun rs => Rk (finR (seqR rs _)) _) (fun i e C => ∃ (cs : List Int) (o2 o3 o4 o5 o6 : Option D), e = [some (.scr (ns.map D.int)), some (.ref A.length), o2, o3, o4, o5, o6] ∧ C[A.length]? = some (.lst (cs.map D.int)) ∧ C[A.length + 1]? = some (.lst (List.take 63 (List.map D.int ns))) ∧ cs.length = i ∧ Fr [] A C) ⟨[], _, _, _, _, _, rfl, b0, b1, rfl, fB⟩ (fun i e C _ h => by obtain ⟨_, _, _, _, _, _, _, _, h, _⟩ := h; exact h) ?_ ?_
  · rintro i _ C d hd ⟨cs, o2, o3, o4, o5, o6, rfl, c0, c1, hi, fC⟩
    obtain ⟨x', q1, rfl⟩ := enumL_get hd
    have li : i < 63 := by
      have := (List.getElem?_eq_some_iff.mp q1).1
      rw [List.length_take] at this; omega
    rw [List.getElem?_take_of_lt li, List.getElem?_map] at q1
    obtain ⟨n, hn, rfl⟩ := Option.map_eq_some_iff.mp q1
    obtain ⟨n0, h0⟩ : ∃ n0, (ns.map D.int)[0]? = some (.int n0) := by
      have : 0 < ns.length := by have := (List.getElem?_eq_some_iff.mp hn).1; omega
      exact ⟨ns[0], by rw [List.getElem?_map, List.getElem?_eq_getElem this]; rfl⟩
    have lC := lt_of_get c0
    obtain ⟨x, hx⟩ : ∃ x : Int, x = (n * 48271 + 7919 * (i : Int) + 11) % 2147483647 := ⟨_, rfl⟩
    obtain ⟨y, hy⟩ : ∃ y : Int, y = x * x % 2147483629 * 69621 % 2147483587 / 7 := ⟨_, rfl⟩
    have bx : -18446744073709551616 < x ∧ x < 18446744073709551616 := by omega
    have fin : ∀ z : Int, (C.set A.length (.lst (cs.map D.int ++ [D.int z])))[A.length]? = some (.lst ((cs ++ [z]).map D.int)) ∧ (C.set A.length (.lst (cs.map D.int ++ [D.int z])))[A.length + 1]? = some (.lst (List.take 63 (List.map D.int ns))) ∧ (cs ++ [z]).length = i + 1 ∧ Fr [] A (C.set A.length (.lst (cs.map D.int ++ [D.int z]))) := fun z =>
      ⟨by rw [zaf lC, List.map_append]; rfl, by rw [z3r (by omega)]; exact c1, by simp [hi], fC.then_set (.inr (Nat.le_refl _))⟩
    have lcs : cs.length < 16000000 := by omega
    show Got _ _
    by_cases q : n0 % 2 = 1
    · simp_arith [h0, ← hx, ← hy, q, c0]
      exact ⟨cs ++ [y], _, _, _, _, _, rfl, by simp, by first | exact c1 | exact (fin 0).2.1, by simp [hi], (fin _).2.2.2⟩
    · by_cases q1 : (-1000 : Int) < n / 2
      · by_cases q2 : n / 2 < 1000
        · simp_arith [h0, ← hx, ← hy, q, c0, q1, q2]
          exact ⟨cs ++ [n / 2 % 1000 + 1000 * y], _, _, _, _, _, rfl, by simp, by first | exact c1 | exact (fin 0).2.1, by simp [hi], (fin _).2.2.2⟩
        · simp_arith [h0, ← hx, ← hy, q, c0, q1, q2]
          exact ⟨cs ++ [n / 2], _, _, _, _, _, rfl, by simp, by first | exact c1 | exact (fin 0).2.1, by simp [hi], (fin _).2.2.2⟩
      · simp_arith [h0, ← hx, ← hy, q, c0, q1]
        exact ⟨cs ++ [n / 2], _, _, _, _, _, rfl, by simp, by first | exact c1 | exact (fin 0).2.1, by simp [hi], (fin _).2.2.2⟩
  · rintro _ C ⟨cs, o2, o3, o4, o5, o6, rfl, c0, c1, hi, fC⟩
    rw [enumL_len, List.length_take] at hi
    simp_arith []
    exact ⟨cs, _, rfl, c0, by omega, fC⟩
/-- the digits of a number by some sizes -/
def digs : Int → List Int → List Int
  | _, [] => []
  | c, s :: r => c % s :: digs (c / s) r
def rest : Int → List Int → Int
  | c, [] => c
  | c, s :: r => rest (c / s) r
theorem digs_snoc : ∀ {l : List Int} {c s : Int}, digs c (l ++ [s]) = digs c l ++ [rest c l % s] ∧ rest c (l ++ [s]) = rest c l / s
  | [], c, s => ⟨rfl, rfl⟩
  | x :: l, c, s => by
    have ih := digs_snoc (l := l) (c := c / x) (s := s)
    exact ⟨by show c % x :: digs (c / x) (l ++ [s]) = c % x :: (digs (c / x) l ++ [rest (c / x) l % s]); rw [ih.1], ih.2⟩
theorem digits_ok {c : Int} {ss : List Int} {r : Nat} {A : Hs} (hr : A[r]? = some (.lst (ss.map D.int))) (hs : ∀ s ∈ ss, 0 < s ∧ s < 1000000) (hl : ss.length ≤ 20) :
    ∃ A1, F_l_digits [.int c, .ref r] A = .ok (.ref A.length) A1 ∧ A1[A.length]? = some (.lst ((digs c ss).map D.int)) ∧ Fr [] A A1 := by
  suffices H : Rk (F_l_digits [.int c, .ref r] A) fun v A1 => v = .ref A.length ∧ A1[A.length]? = some (.lst ((digs c ss).map D.int)) ∧ Fr [] A A1 by
    obtain ⟨_, A1, e, rfl, h⟩ := H.ex
    exact ⟨A1, e, h⟩
  have lr := lt_of_get hr
  have hr1 : (A ++ [O.lst []])[r]? = some (.lst (ss.map D.int)) := by rw [List.getElem?_append_left lr]; exact hr
  unfold F_l_digits
  simp_arith [hr1]
  refine for_go (R := fun rs => Rk (finR (seqR rs _)) _) (fun i e C => ∃ (o3 : Option D), e = [some (.int (rest c (ss.take i))), some (.ref r), some (.ref A.length), o3] ∧ C[A.length]? = some (.lst ((digs c (ss.take i)).map D.int)) ∧ Fr [] A C) ⟨none, rfl, by simp [digs], .push⟩ (fun i e C _ h => by obtain ⟨_, _, _, h⟩ := h; exact h.get hr (by simp)) ?_ ?_
  · rintro i _ C d hd ⟨o3, rfl, c0, fC⟩
    rw [List.getElem?_map] at hd
    obtain ⟨s, hx, rfl⟩ := Option.map_eq_some_iff.mp hd
    have hs1 := hs s (List.mem_of_getElem? hx)
    have tk : ss.take (i + 1) = ss.take i ++ [s] := by rw [List.take_succ, hx]; rfl
    have lC := lt_of_get c0
    have ln : ∀ (l : List Int) (c : Int), (digs c l).length = l.length := by
      intro l
      induction l with
      | nil => intro c; rfl
      | cons x l ih => intro c; simp [digs, ih]
    have l1 : (digs c (ss.take i)).length ≤ 20 := by rw [ln, List.length_take]; omega
    have e1 := (digs_snoc (l := ss.take i) (c := c) (s := s)).1
    have e2 := (digs_snoc (l := ss.take i) (c := c) (s := s)).2
    show Got _ _
    rw [tk, e2]
    simp_arith [c0]
    refine ⟨_, rfl, ?_, fC.then_set (.inr (Nat.le_refl _))⟩
    rw [e1, List.map_append]; rfl
  · rintro _ C ⟨o3, rfl, c0, fC⟩
    rw [List.length_map, List.take_length] at c0
    simp_arith []
    exact ⟨c0, fC⟩

/-! pairs -/
structure Pr where
  l : Tk
  r : Tk
def Pr.d (p : Pr) : D := .tup [p.l.d, p.r.d]
/-- places and ports as they are drawn; the first number below a bound -/
structure TkB (k : Tk) (m : Int) : Prop where
  p : 0 ≤ k.p ∧ k.p ≤ 255
  a : 0 ≤ k.a ∧ k.a ≤ 255
  b : 0 ≤ k.b ∧ k.b ≤ 255
  c : 0 ≤ k.c ∧ k.c ≤ 255
  f : 0 ≤ k.f ∧ k.f ≤ m
theorem TkB.ok {k : Tk} {m : Int} (h : TkB k m) (hm : m ≤ 4294967295) : TkOk k := ⟨h.p, h.a, h.b, h.c, h.f.1, by have := h.f.2; omega⟩
theorem pairs_ok {c : Int} {A : Hs} : ∃ (ps : List Pr) (r : Nat) (A1 : Hs), F_l_pairs [.int c] A = .ok (.ref r) A1 ∧ A1[r]? = some (.lst (ps.map Pr.d)) ∧ ps.length = 3 ∧ (∀ p ∈ ps, TkB p.l 1000 ∧ TkB p.r 4294967294) ∧ Fr [] A A1 := by
  suffices H : Rk (F_l_pairs [.int c] A) fun v A1 => ∃ (ps : List Pr) (r : Nat), v = .ref r ∧ A1[r]? = some (.lst (ps.map Pr.d)) ∧ ps.length = 3 ∧ (∀ p ∈ ps, TkB p.l 1000 ∧ TkB p.r 4294967294) ∧ Fr [] A A1 by
    obtain ⟨_, A1, e, ps, r, rfl, h⟩ := H.ex
    exact ⟨ps, r, A1, e, h⟩
  obtain ⟨A0, hA0⟩ : ∃ A0, A0 = A ++ [O.lst [.int 3, .int 5, .int 4, .int 7, .int 6, .int 5]] := ⟨_, rfl⟩
  have f0 : Fr [] A A0 := by rw [hA0]; exact .push
  have g0 : A0[A.length]? = some (.lst (([3, 5, 4, 7, 6, 5] : List Int).map D.int)) := by rw [hA0]; simp
  obtain ⟨A1, e1, g1, f1⟩ := digits_ok (c := c) g0 (by intro s hs; simp only [List.mem_cons, List.not_mem_nil, or_false] at hs; omega) (by simp)
  obtain ⟨d0, d1, d2, d3, d4, d5, hd, b0, b1, b2, b3, b4, b5⟩ : ∃ d0 d1 d2 d3 d4 d5 : Int, digs c [3, 5, 4, 7, 6, 5] = [d0, d1, d2, d3, d4, d5] ∧ (0 ≤ d0 ∧ d0 < 3) ∧ (0 ≤ d1 ∧ d1 < 5) ∧ (0 ≤ d2 ∧ d2 < 4) ∧ (0 ≤ d3 ∧ d3 < 7) ∧ (0 ≤ d4 ∧ d4 < 6) ∧ (0 ≤ d5 ∧ d5 < 5) :=
    ⟨_, _, _, _, _, _, rfl, by omega, by omega, by omega, by omega, by omega, by omega⟩
  have l0 : A0.length = A.length + 1 := by rw [hA0]; simp
  rw [hd] at g1
  rw [l0] at e1 g1
  have l1 := lt_of_get g1
  have lAA : A.length ≤ A1.length := by omega
  obtain ⟨A2, hA2⟩ : ∃ A2, A2 = A1 ++ [O.lst []] := ⟨_, rfl⟩
  have f2 : Fr [] A1 A2 := by rw [hA2]; exact .push
  have g12 := f2.get g1 (by simp)
  have g2 : A2[A1.length]? = some (.lst (([] : List Pr).map Pr.d)) := by rw [hA2]; simp
  have fr2 := (f0.trans f1).trans f2
  unfold F_l_pairs
  simp_arith [← hA0, e1, ← hA2]
  refine for_go (R := fun rs => Rk (finR (seqR rs _)) _) (fun i e C => ∃ (ps : List Pr) (o3 o4 o5 o6 o7 o8 o9 : Option D), e = [some (.int c), some (.ref (A.length + 1)), some (.ref A1.length), o3, o4, o5, o6, o7, o8, o9] ∧ C[A1.length]? = some (.lst (ps.map Pr.d)) ∧ C[A.length + 1]? = some (.lst [.int d0, .int d1, .int d2, .int d3, .int d4, .int d5]) ∧ ps.length = i ∧ (∀ p ∈ ps, TkB p.l 900 ∧ TkB p.r 4294967294) ∧ Fr [] A C) ⟨[], _, _, _, _, _, _, _, rfl, g2, g12, rfl, by simp, fr2⟩ (fun _ _ _ _ _ => trivial) ?_ ?_
  · rintro i _ C d hdd ⟨ps, o3, o4, o5, o6, o7, o8, o9, rfl, c0, c1, hi, hp, fC⟩
    obtain ⟨rfl, li⟩ := rgL_get hdd
    have li : i < 3 := li
    have lC := lt_of_get c0
    have lC1 := lt_of_get c1
    obtain ⟨x4, h4, b4'⟩ : ∃ x4 : Int, [D.int 0, .int 1, .int 50][(d4 % 3).toNat]? = some (.int x4) ∧ 0 ≤ x4 ∧ x4 ≤ 50 := by
      rcases (by omega : (d4 % 3).toNat = 0 ∨ (d4 % 3).toNat = 1 ∨ (d4 % 3).toNat = 2) with q | q | q <;> rw [q] <;> exact ⟨_, rfl, by omega⟩
    obtain ⟨x5, h5, b5'⟩ : ∃ x5 : Int, [D.int 0, .int 9, .int 4294967290, .int 3][(d5 % 4).toNat]? = some (.int x5) ∧ 0 ≤ x5 ∧ x5 ≤ 4294967290 := by
      rcases (by omega : (d5 % 4).toNat = 0 ∨ (d5 % 4).toNat = 1 ∨ (d5 % 4).toNat = 2 ∨ (d5 % 4).toNat = 3) with q | q | q | q <;> rw [q] <;> exact ⟨_, rfl, by omega⟩
    obtain ⟨k, hk⟩ : ∃ k : Int, k = 0 + (i : Int) * 1 := ⟨_, rfl⟩
    have bk : 0 ≤ k ∧ k ≤ 2 := by omega
    rw [← hk]
    obtain ⟨u, v, w, hv, bu, bv0, bv⟩ : ∃ (u v w : Int), (d0 + k) % 3 = w ∧ (0 ≤ u ∧ u ≤ 2) ∧ (0 ≤ v ∧ v ≤ 2) ∧ (w = 0 ∧ u = 0 ∧ v = 1 ∨ w = 1 ∧ u = 1 ∧ v = 0 ∨ w = 2 ∧ u = 0 ∧ v = 2) := by
      rcases (by omega : (d0 + k) % 3 = 0 ∨ (d0 + k) % 3 = 1 ∨ (d0 + k) % 3 = 2) with q | q | q
      · exact ⟨0, 1, 0, by omega, by omega, by omega, by omega⟩
      · exact ⟨1, 0, 1, by omega, by omega, by omega, by omega⟩
      · exact ⟨0, 2, 2, by omega, by omega, by omega, by omega⟩
    obtain ⟨P1, hP1⟩ : ∃ P1 : Pr, P1 = ⟨⟨u, v, 7 + d1 * (k % 2), 128 + d2 + 3 * k, d3 * 100 + k * x4⟩, ⟨v, u, 128 + d2 + 3 * k, 7 + d1 * (k % 2), x5 + 2 * k⟩⟩ := ⟨_, rfl⟩
    have bP : TkB P1.l 900 ∧ TkB P1.r 4294967294 := by
      have m1 : 0 ≤ d1 * (k % 2) ∧ d1 * (k % 2) ≤ 4 := by
        rcases (by omega : k % 2 = 0 ∨ k % 2 = 1) with q | q <;> rw [q] <;> omega
      have m2 : 0 ≤ k * x4 ∧ k * x4 ≤ 100 := by
        rcases (by omega : k = 0 ∨ k = 1 ∨ k = 2) with q | q | q <;> rw [q] <;> omega
      rw [hP1]
      constructor <;> constructor <;> simp only <;> omega
    have hps : ps.length ≤ 3 := by omega
    have bps : ∀ p ∈ ps ++ [P1], TkB p.l 900 ∧ TkB p.r 4294967294 := fun p h => by
      rcases List.mem_append.mp h with q | q
      · exact hp p q
      · rw [List.mem_singleton] at q; rw [q]; exact bP
    show Got _ _
    rcases bv with ⟨rfl, rfl, rfl⟩ | ⟨rfl, rfl, rfl⟩ | ⟨rfl, rfl, rfl⟩
    · simp_arith [c1, hv, h4, h5, c0]
      exact ⟨ps ++ [P1], _, _, _, _, _, _, _, rfl, by rw [hP1, List.map_append]; rfl, by simp [hi], bps, by walk_at "fr!"⟩
    · simp_arith [c1, hv, h4, h5, c0]
      exact ⟨ps ++ [P1], _, _, _, _, _, _, _, rfl, by rw [hP1, List.map_append]; rfl, by simp [hi], bps, by walk_at "fr!"⟩
    · simp_arith [c1, hv, h4, h5, c0]
      exact ⟨ps ++ [P1], _, _, _, _, _, _, _, rfl, by rw [hP1, List.map_append]; rfl, by simp [hi], bps, by walk_at "fr!"⟩
  · rintro _ C ⟨ps, o3, o4, o5, o6, o7, o8, o9, rfl, c0, c1, hi, hp, fC⟩
    have hi : ps.length = 3 := hi
    obtain ⟨p0, p1, p2, rfl⟩ : ∃ p0 p1 p2, ps = [p0, p1, p2] := by
      match ps, hi with
      | [a, b, c], _ => exact ⟨a, b, c, rfl⟩
    have q0 := hp p0 (by simp)
    have q1 := hp p1 (by simp)
    have q2 := hp p2 (by simp)
    have up : ∀ {k : Tk}, TkB k 900 → TkB k 1000 := fun h => ⟨h.p, h.a, h.b, h.c, h.f.1, by have := h.f.2; omega⟩
    by_cases q : (0 : Int) < c / 12600 % 3
    · obtain ⟨w, m0, m1, hw, bm, hm⟩ : ∃ (w m0 m1 : Int), c / 37800 % 4 = w ∧ (0 ≤ m0 ∧ m0 ≤ 9 ∧ 0 ≤ m1 ∧ m1 ≤ 9) ∧ (w = 0 ∧ m0 = 9 ∧ m1 = 9 ∨ w = 1 ∧ m0 = 9 ∧ m1 = 0 ∨ w = 2 ∧ m0 = 0 ∧ m1 = 9 ∨ w = 3 ∧ m0 = 1 ∧ m1 = 1) := by
        rcases (by omega : c / 37800 % 4 = 0 ∨ c / 37800 % 4 = 1 ∨ c / 37800 % 4 = 2 ∨ c / 37800 % 4 = 3) with q | q | q | q
        · exact ⟨0, 9, 9, by omega, by omega, by omega⟩
        · exact ⟨1, 9, 0, by omega, by omega, by omega⟩
        · exact ⟨2, 0, 9, by omega, by omega, by omega⟩
        · exact ⟨3, 1, 1, by omega, by omega, by omega⟩
      obtain ⟨P2, hP2⟩ : ∃ P2 : Pr, P2 = ⟨⟨p0.l.p, p0.l.a, p0.l.b, p0.l.c, p0.l.f + m0⟩, ⟨p0.r.p, p0.r.a, p0.r.b, p0.r.c, p0.r.f / 2 + m1⟩⟩ := ⟨_, rfl⟩
      have bP : TkB P2.l 1000 ∧ TkB P2.r 4294967294 := by
        have z1 := q0.1.f
        have z2 := q0.2.f
        rw [hP2]
        exact ⟨⟨q0.1.p, q0.1.a, q0.1.b, q0.1.c, by simp only; omega⟩, ⟨q0.2.p, q0.2.a, q0.2.b, q0.2.c, by simp only; omega⟩⟩
      have bps : ∀ p ∈ [p0, p1, P2], TkB p.l 1000 ∧ TkB p.r 4294967294 := fun p h => by
        simp only [List.mem_cons, List.not_mem_nil, or_false] at h
        rcases h with rfl | rfl | rfl
        · exact ⟨up q0.1, q0.2⟩
        · exact ⟨up q1.1, q1.2⟩
        · exact bP
      have lC := lt_of_get c0
      have e0 : p0.d = .tup [.tup [.int p0.l.p, .tup [.int p0.l.a, .int p0.l.b, .int p0.l.c], .int p0.l.f], .tup [.int p0.r.p, .tup [.int p0.r.a, .int p0.r.b, .int p0.r.c], .int p0.r.f]] := rfl
      rcases hm with ⟨rfl, rfl, rfl⟩ | ⟨rfl, rfl, rfl⟩ | ⟨rfl, rfl, rfl⟩ | ⟨rfl, rfl, rfl⟩
      all_goals
        simp_arith [q, c0, e0, hw, List.take_succ_cons, List.take_zero, List.set_cons_succ, List.set_cons_zero]
        refine ⟨[p0, p1, P2], A1.length, rfl, ?_, rfl, bps, by walk_at "fr!"⟩
        rw [hP2, zaf (by simp only [List.length_append, List.length_cons, List.length_nil]; omega)]
        rfl
    · simp_arith [q]
      refine ⟨[p0, p1, p2], A1.length, rfl, c0, rfl, fun p h => ?_, fC⟩
      simp only [List.mem_cons, List.not_mem_nil, or_false] at h
      rcases h with rfl | rfl | rfl
      · exact ⟨up q0.1, q0.2⟩
      · exact ⟨up q1.1, q1.2⟩
      · exact ⟨up q2.1, q2.2⟩

theorem add_line {w : String} {t : Int} {k : Tk} {m : D} {A : Hs} : oAdd (.tup [dS w, .int t]) k.d A = .ok (.tup [dS w, .int t, .int k.p, .tup [.int k.a, .int k.b, .int k.c], .int k.f]) A := by
  unfold Tk.d
  simp_arith []
theorem begun_ok {n : Int} {ps : List Pr} {r : Nat} {A : Hs} (hr : A[r]? = some (.lst (ps.map Pr.d))) (hp3 : ps.length = 3) (hp : ∀ p ∈ ps, TkB p.l 1000 ∧ TkB p.r 4294967294) :
    ∃ (L : List Ln) (b : Nat) (A1 : Hs), F_l_begun_book [.int n, .ref r] A = .ok (.ref b) A1 ∧ A1[b]? = some (.lst (L.map Ln.d)) ∧ A.length ≤ b ∧ L.length ≤ 6 ∧ (∀ x ∈ L, LnOk x ∧ x.t = 0) ∧ Fr [] A A1 := by
  suffices H : Rk (F_l_begun_book [.int n, .ref r] A) fun v A1 => ∃ (L : List Ln) (b : Nat), v = .ref b ∧ A1[b]? = some (.lst (L.map Ln.d)) ∧ A.length ≤ b ∧ L.length ≤ 6 ∧ (∀ x ∈ L, LnOk x ∧ x.t = 0) ∧ Fr [] A A1 by
    obtain ⟨_, A1, e, L, b, rfl, h⟩ := H.ex
    exact ⟨L, b, A1, e, h⟩
  have lr := lt_of_get hr
  have hr1 : (A ++ [O.lst []])[r]? = some (.lst (ps.map Pr.d)) := by rw [List.getElem?_append_left lr]; exact hr
  unfold F_l_begun_book
  simp_arith [hr1]
  refine for_go (R := fun rs => Rk (finR (seqR rs _)) _) (fun i e C => ∃ (L : List Ln) (b : Nat) (o3 o4 o5 o6 o7 : Option D), e = [some (.int n), some (.ref r), some (.ref b), o3, o4, o5, o6, o7] ∧ C[b]? = some (.lst (L.map Ln.d)) ∧ A.length ≤ b ∧ L.length ≤ 2 * i ∧ (∀ x ∈ L, LnOk x ∧ x.t = 0) ∧ Fr [] A C) ⟨[], A.length, _, _, _, _, _, rfl, by simp, Nat.le_refl _, by simp, by simp, .push⟩ (fun i e C _ h => by obtain ⟨_, _, _, _, _, _, _, _, _, _, _, _, h⟩ := h; exact h.get hr (by simp)) ?_ ?_
  · rintro i _ C d hd ⟨L, b, o3, o4, o5, o6, o7, rfl, c0, hb, hl, hL, fC⟩
    obtain ⟨x', q1, rfl⟩ := enumL_get hd
    rw [List.getElem?_map] at q1
    obtain ⟨p, hx, rfl⟩ := Option.map_eq_some_iff.mp q1
    have li : i < 3 := by have := (List.getElem?_eq_some_iff.mp hx).1; omega
    obtain ⟨pl, pr⟩ := hp p (List.mem_of_getElem? hx)
    have lC := lt_of_get c0
    obtain ⟨z, hz, bz⟩ : ∃ z : Int, [D.int 1, .int 12, .int 144][((i : Nat) : Int).toNat]? = some (.int z) ∧ 0 < z ∧ z < 1000 := by
      rcases (by omega : i = 0 ∨ i = 1 ∨ i = 2) with rfl | rfl | rfl <;> exact ⟨_, rfl, by omega⟩
    obtain ⟨K, hK⟩ : ∃ K : Int, K = n / z % 12 := ⟨_, rfl⟩
    have e0 : p.d = .tup [p.l.d, p.r.d] := rfl
    have a1 : ∀ (k : Tk) (B : Hs), oAdd (.tup [dS "opened", .int 0]) k.d B = .ok (.tup [dS "opened", .int 0, .int k.p, .tup [.int k.a, .int k.b, .int k.c], .int k.f]) B := fun k B => add_line (m := .non)
    obtain ⟨x1, hx1⟩ : ∃ x1 : Ln, x1 = ⟨0, p.l, .op p.r.f⟩ := ⟨_, rfl⟩
    obtain ⟨x2, hx2⟩ : ∃ x2 : Ln, x2 = ⟨0, p.r, .op p.l.f⟩ := ⟨_, rfl⟩
    obtain ⟨x3, hx3⟩ : ∃ x3 : Ln, x3 = ⟨0, p.l, .op (p.r.f + 1)⟩ := ⟨_, rfl⟩
    have z1 := pl.f
    have z2 := pr.f
    have k1 : LnOk x1 ∧ x1.t = 0 := by rw [hx1]; exact ⟨⟨Int.le_refl 0, pl.ok (by decide), ⟨z2.1, by omega⟩⟩, rfl⟩
    have k2 : LnOk x2 ∧ x2.t = 0 := by rw [hx2]; exact ⟨⟨Int.le_refl 0, pr.ok (by decide), ⟨z1.1, by omega⟩⟩, rfl⟩
    have k3 : LnOk x3 ∧ x3.t = 0 := by rw [hx3]; exact ⟨⟨Int.le_refl 0, pl.ok (by decide), ⟨by omega, by omega⟩⟩, rfl⟩
    have d1 : D.tup [dS "opened", .int 0, .int p.l.p, .tup [.int p.l.a, .int p.l.b, .int p.l.c], .int p.l.f, .int p.r.f] = x1.d := by rw [hx1]; rfl
    have d2 : D.tup [dS "opened", .int 0, .int p.r.p, .tup [.int p.r.a, .int p.r.b, .int p.r.c], .int p.r.f, .int p.l.f] = x2.d := by rw [hx2]; rfl
    have d3 : D.tup [dS "opened", .int 0, .int p.l.p, .tup [.int p.l.a, .int p.l.b, .int p.l.c], .int p.l.f, .int (p.r.f + 1)] = x3.d := by rw [hx3]; rfl
    have t2 : ∀ (k : Tk) (B : Hs), oIx k.d (.int 2) B = .ok (.int k.f) B := fun _ _ => rfl
    have as : ∀ (B : Hs) (M : List Ln), M.length ≤ 2 → ad_ B (some (L.map Ln.d)) (some (M.map Ln.d)) = .ok (.ref B.length) (B ++ [.lst ((L ++ M).map Ln.d)]) := fun B M hM => by
      rw [zbb (by simp only [List.length_map]; omega), List.map_append]
    have as2 : ∀ (B : Hs), ad_ B (some (L.map Ln.d)) (some [x1.d, x2.d]) = .ok (.ref B.length) (B ++ [.lst ((L ++ [x1, x2]).map Ln.d)]) := fun B => as B [x1, x2] (by simp)
    have as2' : ∀ (B : Hs), ad_ B (some (L.map Ln.d)) (some [x2.d, x1.d]) = .ok (.ref B.length) (B ++ [.lst ((L ++ [x2, x1]).map Ln.d)]) := fun B => as B [x2, x1] (by simp)
    have as1 : ∀ (B : Hs), ad_ B (some (L.map Ln.d)) (some [x1.d]) = .ok (.ref B.length) (B ++ [.lst ((L ++ [x1]).map Ln.d)]) := fun B => as B [x1] (by simp)
    have as0 : ∀ (B : Hs), ad_ B (some (L.map Ln.d)) (some []) = .ok (.ref B.length) (B ++ [.lst ((L ++ []).map Ln.d)]) := fun B => as B [] (by simp)
    have as3 : ∀ (B : Hs), ad_ B (some (L.map Ln.d)) (some [x3.d, x2.d]) = .ok (.ref B.length) (B ++ [.lst ((L ++ [x3, x2]).map Ln.d)]) := fun B => as B [x3, x2] (by simp)
    have fin : ∀ (M : List Ln), M.length ≤ 2 → (∀ x ∈ M, LnOk x ∧ x.t = 0) → (L ++ M).length ≤ 2 * (i + 1) ∧ ∀ x ∈ L ++ M, LnOk x ∧ x.t = 0 := fun M h1 h2 => ⟨by rw [List.length_append]; omega, fun x hx => by
      rcases List.mem_append.mp hx with q | q
      · exact hL x q
      · exact h2 x q⟩
    have f12 := fin [x1, x2] (by simp) (by simp [k1, k2])
    have f21 := fin [x2, x1] (by simp) (by simp [k1, k2])
    have f1 := fin [x1] (by simp) (by simp [k1])
    have f0 := fin [] (by simp) (by simp)
    have f32 := fin [x3, x2] (by simp) (by simp [k3, k2])
    show Got _ _
    by_cases q1 : K = 1
    · simp_arith [e0, hz, ← hK, a1, t2, d1, d2, q1, List.take_succ_cons, List.take_zero, c0, as1]
      exact ⟨L ++ [x1], _, _, _, _, _, _, rfl, by rw [List.getElem?_append_right (by simp only [List.length_append, List.length_cons, List.length_nil]; omega)]; simp only [List.length_append, List.length_cons, List.length_nil, Nat.sub_self, List.getElem?_cons_zero, Nat.add_assoc, Nat.reduceAdd], by omega, f1.1, f1.2, by walk_at "fr!"⟩
    · by_cases q2 : K = 2
      · simp_arith [e0, hz, ← hK, a1, t2, d1, d2, d3, q1, q2, c0, as3]
        exact ⟨L ++ [x3, x2], _, _, _, _, _, _, rfl, by rw [List.getElem?_append_right (by simp only [List.length_append, List.length_cons, List.length_nil]; omega)]; simp only [List.length_append, List.length_cons, List.length_nil, Nat.sub_self, List.getElem?_cons_zero, Nat.add_assoc, Nat.reduceAdd], by omega, f32.1, f32.2, by walk_at "fr!"⟩
      · by_cases q3 : K = 3
        · simp_arith [e0, hz, ← hK, a1, t2, d1, d2, q1, q2, q3, c0, as0]
          exact ⟨L ++ [], _, _, _, _, _, _, rfl, by rw [List.getElem?_append_right (by simp only [List.length_append, List.length_cons, List.length_nil]; omega)]; simp only [List.length_append, List.length_cons, List.length_nil, Nat.sub_self, List.getElem?_cons_zero, Nat.add_assoc, Nat.reduceAdd, List.append_nil], by omega, f0.1, f0.2, by walk_at "fr!"⟩
        · by_cases q4 : K % 2 = 1
          · simp_arith [e0, hz, ← hK, a1, t2, d1, d2, q1, q2, q3, q4, c0, as2', List.reverse_cons, List.reverse_nil]
            exact ⟨L ++ [x2, x1], _, _, _, _, _, _, rfl, by rw [List.getElem?_append_right (by simp only [List.length_append, List.length_cons, List.length_nil]; omega)]; simp only [List.length_append, List.length_cons, List.length_nil, Nat.sub_self, List.getElem?_cons_zero, Nat.add_assoc, Nat.reduceAdd], by omega, f21.1, f21.2, by walk_at "fr!"⟩
          · simp_arith [e0, hz, ← hK, a1, t2, d1, d2, q1, q2, q3, q4, c0, as2]
            exact ⟨L ++ [x1, x2], _, _, _, _, _, _, rfl, by rw [List.getElem?_append_right (by simp only [List.length_append, List.length_cons, List.length_nil]; omega)]; simp only [List.length_append, List.length_cons, List.length_nil, Nat.sub_self, List.getElem?_cons_zero, Nat.add_assoc, Nat.reduceAdd], by omega, f12.1, f12.2, by walk_at "fr!"⟩
  · rintro _ C ⟨L, b, o3, o4, o5, o6, o7, rfl, c0, hb, hl, hL, fC⟩
    rw [enumL_len, List.length_map, hp3] at hl
    simp_arith []
    exact ⟨L, b, rfl, c0, hb, by omega, hL, fC⟩

noncomputable def bkS : S := (sDrop (eBL oAppend (eVar 4) (aCons (eOp oAdd (eOp oAdd (eTup (aCons (eC (dS "stands")) (aCons (eVar 5) aNil))) (eVar 14)) (eTup (aCons (eOp oIx (eLst (aCons (eC (dS "open")) (aCons (eC (dS "cut")) (aCons (eC (dS "rests")) (aCons (eC (dS "gone")) (aCons (eC (dS "answers")) (aCons (eC (dS "calls")) aNil))))))) (eVar 12)) aNil))) aNil)))
noncomputable def bkW : S := (sSeq (sSet 17 (eCB (c1 oTuple) (aCons (eLc (wAs rg1 (aCons (eOp oAdd (eC (.int 1)) (eVar 11)) aNil)) (gN 18) tYe (eOp oMod (eOp oAdd (eVar 13) (eOp oMul (eC (.int 37)) (eVar 18))) (eC (.int 256))) [18]) aNil))) (sSeq (sNPutF (eVar 2) (eVar 14) (eOp oAdd (eNGet2 (eVar 2) (eVar 14) (eTup aNil)) (eVar 17))) (sDrop (eBL oAppend (eVar 4) (aCons (eOp oAdd (eOp oAdd (eTup (aCons (eC (dS "wrote")) (aCons (eVar 5) aNil))) (eVar 14)) (eTup (aCons (eVar 17) aNil))) aNil)))))
noncomputable def bkO : S := (sSeq (sSet 16 (eOp oIx (eLst (aCons (eOp oIx (eVar 15) (eC (.int 2))) (aCons (eOp oIx (eVar 15) (eC (.int 2))) (aCons (eOp oIx (eVar 15) (eC (.int 2))) (aCons (eOp oAdd (eOp oIx (eVar 15) (eC (.int 2))) (eC (.int 1))) (aCons (eOp oIx (eVar 14) (eC (.int 2))) (aCons (eOp oIx (eVar 15) (eC (.int 2))) aNil))))))) (eVar 12))) (sDrop (eBL oAppend (eVar 4) (aCons (eOp oAdd (eOp oAdd (eTup (aCons (eC (dS "opened")) (aCons (eVar 5) aNil))) (eVar 14)) (eTup (aCons (eVar 16) aNil))) aNil))))
noncomputable def bkT : S := (sSeq (sIf (tOf (eOp oNe (eVar 17) (eTup aNil))) (sSeq (sNPutF (eVar 3) (eVar 14) (eOp oAdd (eNGet2 (eVar 3) (eVar 14) (eC (.int 0))) (eCB (c1 oLen) (aCons (eVar 17) aNil)))) (sDrop (eBL oAppend (eVar 4) (aCons (eOp oAdd (eOp oAdd (eTup (aCons (eC (dS "read")) (aCons (eVar 5) aNil))) (eVar 14)) (eTup (aCons (eVar 17) aNil))) aNil)))) sNx) (sIf (tOf (eOp oNe (eVar 19) (eTup aNil))) (sSeq (sNPutF (eVar 2) (eVar 15) (eOp oAdd (eNGet2 (eVar 2) (eVar 15) (eTup aNil)) (eVar 19))) (sDrop (eBL oAppend (eVar 4) (aCons (eOp oAdd (eOp oAdd (eTup (aCons (eC (dS "wrote")) (aCons (eVar 5) aNil))) (eVar 15)) (eTup (aCons (eVar 19) aNil))) aNil)))) sNx))
noncomputable def bkR : S := (sSeq (sSet 17 (eSl oSl (eSl oSl (eNGet2 (eVar 2) (eVar 15) (eTup aNil)) (oSo (eNGet2 (eVar 3) (eVar 14) (eC (.int 0)))) oNo) oNo (oSo (eOp oAdd (eC (.int 1)) (eVar 11))))) (sSeq (sSet 19 (eTup aNil)) (sSeq (sIf (tAn (tOf (eOp oEq (eVar 7) (eC (.int 21)))) (tOf (eOp oLt (eVar 12) (eC (.int 2))))) (sSeq (sSet 19 (eTup (aCons (eVar 13) (aCons (eVar 12) aNil)))) (sSet 17 (eOp oAdd (eSl oSl (eNGet2 (eVar 2) (eVar 15) (eTup aNil)) (oSo (eNGet2 (eVar 3) (eVar 14) (eC (.int 0)))) oNo) (eVar 19)))) (sIf (tOf (eOp oEq (eVar 7) (eC (.int 21)))) (sSet 17 (eIf (tOf (eOp oEq (eVar 12) (eC (.int 2)))) (eOp oAdd (eVar 17) (eTup (aCons (eVar 13) aNil))) (eCB (c1 oTuple) (aCons (eLc (wSeq (eVar 17)) (gN 20) tYe (eOp oMod (eOp oAdd (eVar 20) (eVar 12)) (eC (.int 256))) [20]) aNil)))) sNx)) bkT)))
theorem book_eq : F_l_book = mkFn 1 21 (sSeq (sSet 1 (eCall F_l_pairs (aCons (eOp oIx (eOp oAdd (eVar 0) (eLst (aCons (eC (.int 0)) aNil))) (eC (.int 0))) aNil))) (sSeq (sSet 2 eNNew) (sSeq (sSet 3 eNNew) (sSeq (sSet 4 (eCall F_l_begun_book (aCons (eOp oDiv (eOp oIx (eOp oAdd (eVar 0) (eLst (aCons (eC (.int 0)) aNil))) (eC (.int 0))) (eC (.int 151200))) (aCons (eVar 1) aNil)))) (sSeq (sSet 5 (eC (.int 0))) (sSeq (sFor (wSeq (eSl oSl (eVar 0) (oSo (eC (.int 1))) oNo)) (gN 6) (sSeq (sAsg (eCall F_l_digits (aCons (eVar 6) (aCons (eLst (aCons (eC (.int 24)) (aCons (eC (.int 3)) (aCons (eC (.int 2)) (aCons (eC (.int 2)) (aCons (eC (.int 4)) (aCons (eC (.int 6)) (aCons (eC (.int 256)) aNil)))))))) aNil))) (gL [(gN 7), (gN 8), (gN 9), (gN 10), (gN 11), (gN 12), (gN 13)])) (sSeq (sSet 14 (eOp oIx (eOp oIx (eVar 1) (eVar 8)) (eVar 9))) (sSeq (sSet 15 (eOp oIx (eOp oIx (eVar 1) (eVar 8)) (eOp oSub (eC (.int 1)) (eVar 9)))) (sSeq (sSet 5 (eOp oAdd (eVar 5) (eVar 10))) (sIf (tOf (eOp oEq (eVar 7) (eC (.int 0)))) bkO (sIf (tOf (eOp oLt (eVar 7) (eC (.int 9)))) bkW (sIf (tOf (eOp oLt (eVar 7) (eC (.int 22)))) bkR bkS)))))))) (sRet (eVar 4)))))))) := rfl
theorem Trn.imp {J J2 : Sl → Hs → Prop} {R : RS → Prop} {r : RS} (h : Trn J (fun _ => False) r) (k : ∀ e A, J e A → J2 e A) : Trn J2 R r := by
  cases r with
  | nx e A => exact k e A h
  | ct e A => exact k e A h
  | rt d A => exact h.elim
  | bk e A => exact h.elim
  | exc C e A => exact h.elim
  | stuck => exact h.elim
/-- where the book stands as it is made -/
structure BI (A C : Hs) (pr w h b s : Nat) (ps : List Pr) (cs : List Int) (n : Nat) (t : Int) (W : Tk → List Int) (H : Tk → Int) (L : List Ln) : Prop where
  fp : C[pr]? = some (.lst (ps.map Pr.d))
  fc : C[s]? = some (.lst (cs.map D.int))
  fw : ∃ f, NdI C w n f ∧ ∀ k, (f k).getD (.tup []) = dI (W k)
  fh : ∃ f, NdI C h n f ∧ ∀ k, (f k).getD (.int 0) = .int (H k)
  fb : C[b]? = some (.lst (L.map Ln.d))
  ff : Fr [] A C
  ww : ∀ k, (W k).length ≤ 4 * n ∧ ∀ x ∈ W k, 0 ≤ x ∧ x ≤ 255
  hh : ∀ k, 0 ≤ H k
  ll : L.length ≤ 6 + n
  lx : ∀ x ∈ L, LnOk x ∧ x.t ≤ t
  ls : (L.map Ln.t).Pairwise (· ≤ ·)
  t0 : 0 ≤ t
  fd : A.length ≤ w ∧ A.length ≤ h ∧ A.length ≤ b ∧ w ≠ h ∧ w ≠ b ∧ h ≠ b ∧ w ≠ pr ∧ h ≠ pr ∧ b ≠ pr ∧ w ≠ s ∧ h ≠ s ∧ b ≠ s
section
variable {A C : Hs} {pr w h b s n : Nat} {ps : List Pr} {cs : List Int} {t : Int} {W : Tk → List Int} {H : Tk → Int} {L : List Ln}
theorem BI.tick (i : BI A C pr w h b s ps cs n t W H L) {t' : Int} (ht : t ≤ t') : BI A C pr w h b s ps cs n t' W H L :=
  ⟨i.fp, i.fc, i.fw, i.fh, i.fb, i.ff, i.ww, i.hh, i.ll, fun x hx => ⟨(i.lx x hx).1, by have := (i.lx x hx).2; omega⟩, i.ls, by have := i.t0; omega, i.fd⟩
theorem BI.push (i : BI A C pr w h b s ps cs n t W H L) {o : O} : BI A (C ++ [o]) pr w h b s ps cs n t W H L := by
  have fr : Fr [] C (C ++ [o]) := .push
  refine ⟨fr.get i.fp (by simp), fr.get i.fc (by simp), ?_, ?_, fr.get i.fb (by simp), i.ff.trans fr, i.ww, i.hh, i.ll, i.lx, i.ls, i.t0, i.fd⟩
  · obtain ⟨f, a1, a2⟩ := i.fw; exact ⟨f, a1.frame fr (by simp), a2⟩
  · obtain ⟨f, a1, a2⟩ := i.fh; exact ⟨f, a1.frame fr (by simp), a2⟩
theorem BI.frm (i : BI A C pr w h b s ps cs n t W H L) {C1 : Hs} (fr : Fr [] C C1) : BI A C1 pr w h b s ps cs n t W H L := by
  refine ⟨fr.get i.fp (by simp), fr.get i.fc (by simp), ?_, ?_, fr.get i.fb (by simp), i.ff.trans fr, i.ww, i.hh, i.ll, i.lx, i.ls, i.t0, i.fd⟩
  · obtain ⟨f, a1, a2⟩ := i.fw; exact ⟨f, a1.frame fr (by simp), a2⟩
  · obtain ⟨f, a1, a2⟩ := i.fh; exact ⟨f, a1.frame fr (by simp), a2⟩
theorem BI.line (i : BI A C pr w h b s ps cs n t W H L) {x : Ln} (hx : LnOk x) (ht : x.t = t) : BI A (C.set b (.lst (L.map Ln.d ++ [x.d]))) pr w h b s ps cs (n + 1) t W H (L ++ [x]) := by
  obtain ⟨d1, d2, d3, d4, d5, d6, d7, d8, d9, d10, d11, d12⟩ := i.fd
  have fr : Fr [b] C (C.set b (.lst (L.map Ln.d ++ [x.d]))) := Fr.set (by simp)
  refine ⟨fr.get i.fp (by simpa using d9.symm), fr.get i.fc (by simpa using d12.symm), ?_, ?_, ?_, i.ff.trans' fr (by intro q hq; rw [List.mem_singleton] at hq; right; omega), fun k => ⟨by have := (i.ww k).1; omega, (i.ww k).2⟩, i.hh, ?_, ?_, ?_, i.t0, i.fd⟩
  · obtain ⟨f, a1, a2⟩ := i.fw; exact ⟨f, (a1.frame fr (by simpa using d5)).more (by omega), a2⟩
  · obtain ⟨f, a1, a2⟩ := i.fh; exact ⟨f, (a1.frame fr (by simpa using d6)).more (by omega), a2⟩
  · rw [zaf (lt_of_get i.fb), List.map_append]; rfl
  · have := i.ll; simp; omega
  · intro y hy
    rcases List.mem_append.mp hy with q | q
    · exact i.lx y q
    · rw [List.mem_singleton] at q; subst q; exact ⟨hx, by omega⟩
  · rw [List.map_append, List.pairwise_append]
    refine ⟨i.ls, by simp, fun a ha c hc => ?_⟩
    obtain ⟨y, hy, rfl⟩ := List.mem_map.mp ha
    simp only [List.map_cons, List.map_nil, List.mem_singleton] at hc
    subst hc
    have := (i.lx y hy).2
    omega
theorem BI.had (i : BI A C pr w h b s ps cs n t W H L) {l : List (NestedKey × D)} {k : Tk} {z : Int} (hl : C[h]? = some (.nd l)) (hz : 0 ≤ z) : BI A (C.set h (.nd (nput l k.k (.int z)))) pr w h b s ps cs (n + 1) t W (fun q => if k = q then z else H q) L := by
  obtain ⟨d1, d2, d3, d4, d5, d6, d7, d8, d9, d10, d11, d12⟩ := i.fd
  have fr : Fr [h] C (C.set h (.nd (nput l k.k (.int z)))) := Fr.set (by simp)
  refine ⟨fr.get i.fp (by simpa using d8.symm), fr.get i.fc (by simpa using d11.symm), ?_, ?_, fr.get i.fb (by simpa using d6.symm), i.ff.trans' fr (by intro q hq; rw [List.mem_singleton] at hq; right; omega), fun k => ⟨by have := (i.ww k).1; omega, (i.ww k).2⟩, fun q => ?_, by have := i.ll; omega, i.lx, i.ls, i.t0, i.fd⟩
  · obtain ⟨f, a1, a2⟩ := i.fw; exact ⟨f, (a1.frame fr (by simpa using d4)).more (by omega), a2⟩
  · obtain ⟨f, ⟨l', a1, a2, a3⟩, a4⟩ := i.fh
    rw [hl] at a1; cases a1
    refine ⟨_, NdI.put (lt_of_get hl) a2 a3, fun q => ?_⟩
    by_cases c : k = q
    · simp only [if_pos c]; rfl
    · simp only [if_neg c]; exact a4 q
  · by_cases c : k = q
    · simp only [if_pos c]; exact hz
    · simp only [if_neg c]; exact i.hh q
theorem BI.wr (i : BI A C pr w h b s ps cs n t W H L) {l : List (NestedKey × D)} {k : Tk} {e : List Int} (hl : C[w]? = some (.nd l)) (he : e.length ≤ 4) (hb : ∀ x ∈ e, 0 ≤ x ∧ x ≤ 255) : BI A (C.set w (.nd (nput l k.k (dI (W k ++ e))))) pr w h b s ps cs (n + 1) t (fun q => if k = q then W k ++ e else W q) H L := by
  obtain ⟨d1, d2, d3, d4, d5, d6, d7, d8, d9, d10, d11, d12⟩ := i.fd
  have fr : Fr [w] C (C.set w (.nd (nput l k.k (dI (W k ++ e))))) := Fr.set (by simp)
  refine ⟨fr.get i.fp (by simpa using d7.symm), fr.get i.fc (by simpa using d10.symm), ?_, ?_, fr.get i.fb (by simpa using d5.symm), i.ff.trans' fr (by intro q hq; rw [List.mem_singleton] at hq; right; omega), fun q => ?_, i.hh, by have := i.ll; omega, i.lx, i.ls, i.t0, i.fd⟩
  · obtain ⟨f, ⟨l', a1, a2, a3⟩, a4⟩ := i.fw
    rw [hl] at a1; cases a1
    refine ⟨_, NdI.put (lt_of_get hl) a2 a3, fun q => ?_⟩
    by_cases c : k = q
    · simp only [if_pos c]; rfl
    · simp only [if_neg c]; exact a4 q
  · obtain ⟨f, a1, a2⟩ := i.fh; exact ⟨f, (a1.frame fr (by simpa using d4.symm)).more (by omega), a2⟩
  · by_cases c : k = q
    · simp only [if_pos c]
      have h1 := i.ww k
      exact ⟨by rw [List.length_append]; omega, fun x hx => by
        rcases List.mem_append.mp hx with z | z
        · exact h1.2 x z
        · exact hb x z⟩
    · simp only [if_neg c]
      have h1 := i.ww q
      exact ⟨by omega, h1.2⟩
end
theorem dI_len {l : List Int} {A : Hs} : oLen (dI l) A = .ok (.int (l.length : Nat)) A := by
  unfold dI; rw [z65, List.length_map]
theorem dI_add {l m : List Int} {A : Hs} (h : l.length + m.length ≤ 16000000) : oAdd (dI l) (dI m) A = .ok (dI (l ++ m)) A := by
  unfold dI; rw [z7c (by rw [List.length_map, List.length_map]; exact h), List.map_append]
theorem dI_ne {l : List Int} {A : Hs} : oNe (dI l) (.tup []) A = .ok (.bl (!decide (l = []))) A := oNe_its (m := [])
theorem lineW {wd : String} {t : Int} {k : Tk} {A : Hs} : oAdd (.tup [dS wd, .int t]) k.d A = .ok (.tup [dS wd, .int t, .int k.p, .tup [.int k.a, .int k.b, .int k.c], .int k.f]) A := add_line (m := .non)
/-- what a branch of the loop leaves -/
def BJ (A : Hs) (pr w h b s : Nat) (ps : List Pr) (cs : List Int) (n : Nat) (t : Int) (e2 : Sl) (C2 : Hs) : Prop :=
  ∃ (o6 o7 o8 o9 o10 o11 o12 o13 o14 o15 o16 o17 o18 o19 o20 : Option D) (W : Tk → List Int) (H : Tk → Int) (L : List Ln) (cr : D), e2 = [some cr, some (.ref pr), some (.ref w), some (.ref h), some (.ref b), some (.int t), o6, o7, o8, o9, o10, o11, o12, o13, o14, o15, o16, o17, o18, o19, o20] ∧ BI A C2 pr w h b s ps cs n t W H L
section
variable {A C : Hs} {pr w h b s n : Nat} {ps : List Pr} {cs : List Int} {t : Int} {W : Tk → List Int} {H : Tk → Int} {L : List Ln}
theorem bkT_ok (i : BI A C pr w h b s ps cs n t W H L) {tk ot : Tk} {Dt La : List Int} {cr : D} {o6 o7 o8 o9 o10 o11 o12 o13 o16 o18 o20 : Option D} (ht : TkOk tk) (ho : TkOk ot) (hn : n ≤ 248) (hD : Dt.length ≤ 1000 ∧ ∀ x ∈ Dt, 0 ≤ x ∧ x ≤ 255) (hLa : La.length ≤ 4 ∧ ∀ x ∈ La, 0 ≤ x ∧ x ≤ 255) :
    Trn (BJ A pr w h b s ps cs (n + 4) t) (fun _ => False) (bkT [some cr, some (.ref pr), some (.ref w), some (.ref h), some (.ref b), some (.int t), o6, o7, o8, o9, o10, o11, o12, o13, some tk.d, some ot.d, o16, some (dI Dt), o18, some (dI La), o20] C) := by
  have up : ∀ {C W H L n m}, BI A C pr w h b s ps cs n t W H L → n ≤ m → BI A C pr w h b s ps cs m t W H L := fun i hm => by
    refine ⟨i.fp, i.fc, ?_, ?_, i.fb, i.ff, fun k => ⟨by have := (i.ww k).1; omega, (i.ww k).2⟩, i.hh, by have := i.ll; omega, i.lx, i.ls, i.t0, i.fd⟩
    · obtain ⟨f, a1, a2⟩ := i.fw; exact ⟨f, a1.more hm, a2⟩
    · obtain ⟨f, a1, a2⟩ := i.fh; exact ⟨f, a1.more hm, a2⟩
  obtain ⟨fh, ⟨lh, h1, h2, h3⟩, h4⟩ := i.fh
  have hk : (nget lh tk.k).getD (.int 0) = .int (H tk) := by rw [h3]; exact h4 tk
  have lh' : lh.length < 16000000 := by omega
  have ll := i.ll
  have d1 : ∀ (x : Ln), D.tup [dS x.e.w, .int x.t, .int x.k.p, .tup [.int x.k.a, .int x.k.b, .int x.k.c], .int x.k.f, x.e.m] = x.d := fun _ => rfl
  -- behind the first half
  have second : ∀ {C W H L n2}, BI A C pr w h b s ps cs n2 t W H L → n2 ≤ n + 2 → Trn (BJ A pr w h b s ps cs (n + 4) t) (fun _ => False) (sIf (tOf (eOp oNe (eVar 19) (eTup aNil))) (sSeq (sNPutF (eVar 2) (eVar 15) (eOp oAdd (eNGet2 (eVar 2) (eVar 15) (eTup aNil)) (eVar 19))) (sDrop (eBL oAppend (eVar 4) (aCons (eOp oAdd (eOp oAdd (eTup (aCons (eC (dS "wrote")) (aCons (eVar 5) aNil))) (eVar 15)) (eTup (aCons (eVar 19) aNil))) aNil)))) sNx [some cr, some (.ref pr), some (.ref w), some (.ref h), some (.ref b), some (.int t), o6, o7, o8, o9, o10, o11, o12, o13, some tk.d, some ot.d, o16, some (dI Dt), o18, some (dI La), o20] C) := by
    intro C W H L n2 i h2
    by_cases q : La = []
    · simp_arith [dI_ne, q]
      exact ⟨_, _, _, _, _, _, _, _, _, _, _, _, _, _, _, W, H, L, cr, rfl, up i (by omega)⟩
    · obtain ⟨fw, ⟨lw, w1, w2, w3⟩, w4⟩ := i.fw
      have wk : (nget lw ot.k).getD (.tup []) = dI (W ot) := by rw [w3]; exact w4 ot
      have lw' : lw.length < 16000000 := by omega
      have wl := (i.ww ot).1
      have ea : ∀ B, oAdd (dI (W ot)) (dI La) B = .ok (dI (W ot ++ La)) B := fun B => dI_add (by omega)
      obtain ⟨C1, hC1⟩ : ∃ C1, C1 = C.set w (.nd (nput lw ot.k (dI (W ot ++ La)))) := ⟨_, rfl⟩
      have i1 := i.wr (k := ot) (e := La) w1 hLa.1 hLa.2
      rw [← hC1] at i1
      have x1 : LnOk ⟨t, ot, .wr La⟩ := ⟨i.t0, ho, ⟨hLa.2, by cases La with | nil => exact absurd rfl q | cons => simp, by omega⟩⟩
      have i2 := i1.line x1 rfl
      have b1 := i1.fb
      have lb := i1.ll
      have lb' : L.length < 16000000 := by omega
      have dd : D.tup [dS "wrote", .int t, .int ot.p, .tup [.int ot.a, .int ot.b, .int ot.c], .int ot.f, dI La] = (⟨t, ot, .wr La⟩ : Ln).d := rfl
      simp_arith [dI_ne, q, w1, keyN_tk, wk, ea, z8y lw', ← hC1, lineW, b1, dd]
      exact ⟨_, _, _, _, _, _, _, _, _, _, _, _, _, _, _, _, _, _, cr, rfl, up i2 (by omega)⟩
  have first : ∃ C1 W1 H1 L1 n2, (sIf (tOf (eOp oNe (eVar 17) (eTup aNil))) (sSeq (sNPutF (eVar 3) (eVar 14) (eOp oAdd (eNGet2 (eVar 3) (eVar 14) (eC (.int 0))) (eCB (c1 oLen) (aCons (eVar 17) aNil)))) (sDrop (eBL oAppend (eVar 4) (aCons (eOp oAdd (eOp oAdd (eTup (aCons (eC (dS "read")) (aCons (eVar 5) aNil))) (eVar 14)) (eTup (aCons (eVar 17) aNil))) aNil)))) sNx) [some cr, some (.ref pr), some (.ref w), some (.ref h), some (.ref b), some (.int t), o6, o7, o8, o9, o10, o11, o12, o13, some tk.d, some ot.d, o16, some (dI Dt), o18, some (dI La), o20] C = .nx [some cr, some (.ref pr), some (.ref w), some (.ref h), some (.ref b), some (.int t), o6, o7, o8, o9, o10, o11, o12, o13, some tk.d, some ot.d, o16, some (dI Dt), o18, some (dI La), o20] C1 ∧ BI A C1 pr w h b s ps cs n2 t W1 H1 L1 ∧ n2 ≤ n + 2 := by
    by_cases q : Dt = []
    · refine ⟨C, W, H, L, n, ?_, i, by omega⟩
      simp_arith [dI_ne, q]
    · obtain ⟨C1, hC1⟩ : ∃ C1, C1 = C.set h (.nd (nput lh tk.k (.int (H tk + (Dt.length : Nat))))) := ⟨_, rfl⟩
      have hh0 := i.hh tk
      have i1 := i.had (k := tk) (z := H tk + (Dt.length : Nat)) h1 (by omega)
      rw [← hC1] at i1
      have x1 : LnOk ⟨t, tk, .rd Dt⟩ := ⟨i.t0, ht, ⟨hD.2, by cases Dt with | nil => exact absurd rfl q | cons => simp, hD.1⟩⟩
      have i2 := i1.line x1 rfl
      have b1 := i1.fb
      have lb := i1.ll
      have lb' : L.length < 16000000 := by omega
      have dd : D.tup [dS "read", .int t, .int tk.p, .tup [.int tk.a, .int tk.b, .int tk.c], .int tk.f, dI Dt] = (⟨t, tk, .rd Dt⟩ : Ln).d := rfl
      refine ⟨_, _, _, _, n + 1 + 1, ?_, i2, by omega⟩
      simp_arith [dI_ne, q, h1, keyN_tk, hk, dI_len, z8y lh', ← hC1, lineW, b1, dd]
  obtain ⟨C1, W1, H1, L1, n2, e1, i1, hn2⟩ := first
  have s2 := second i1 hn2
  unfold bkT
  rw [sSeq_, e1]
  exact s2
end

section
variable {A C : Hs} {pr w h b s n : Nat} {ps : List Pr} {cs : List Int} {t : Int} {W : Tk → List Int} {H : Tk → Int} {L : List Ln}
theorem BI.up {m : Nat} (i : BI A C pr w h b s ps cs n t W H L) (hm : n ≤ m) : BI A C pr w h b s ps cs m t W H L := by
  refine ⟨i.fp, i.fc, ?_, ?_, i.fb, i.ff, fun k => ⟨by have := (i.ww k).1; omega, (i.ww k).2⟩, i.hh, by have := i.ll; omega, i.lx, i.ls, i.t0, i.fd⟩
  · obtain ⟨f, a1, a2⟩ := i.fw; exact ⟨f, a1.more hm, a2⟩
  · obtain ⟨f, a1, a2⟩ := i.fh; exact ⟨f, a1.more hm, a2⟩
theorem bkO_ok (i : BI A C pr w h b s ps cs n t W H L) {tk ot : Tk} {cr : D} {od : Int} {o6 o7 o8 o9 o10 o11 o13 o16 o17 o18 o19 o20 : Option D} (ht : TkB tk 4294967294) (ho : TkB ot 4294967294) (hn : n ≤ 248) (hod : 0 ≤ od ∧ od < 6) :
    Trn (BJ A pr w h b s ps cs (n + 4) t) (fun _ => False) (bkO [some cr, some (.ref pr), some (.ref w), some (.ref h), some (.ref b), some (.int t), o6, o7, o8, o9, o10, o11, some (.int od), o13, some tk.d, some ot.d, o16, o17, o18, o19, o20] C) := by
  have z1 := ht.f
  have z2 := ho.f
  obtain ⟨z, hz, bz⟩ : ∃ z : Int, [D.int ot.f, .int ot.f, .int ot.f, .int (ot.f + 1), .int tk.f, .int ot.f][od.toNat]? = some (.int z) ∧ 0 ≤ z ∧ z ≤ 4294967295 := by
    rcases (by omega : od.toNat = 0 ∨ od.toNat = 1 ∨ od.toNat = 2 ∨ od.toNat = 3 ∨ od.toNat = 4 ∨ od.toNat = 5) with q | q | q | q | q | q <;> rw [q] <;> exact ⟨_, rfl, by omega⟩
  obtain ⟨C1, hC1⟩ : ∃ C1, C1 = C ++ [O.lst [D.int ot.f, .int ot.f, .int ot.f, .int (ot.f + 1), .int tk.f, .int ot.f]] := ⟨_, rfl⟩
  have i1 := i.push (o := O.lst [D.int ot.f, .int ot.f, .int ot.f, .int (ot.f + 1), .int tk.f, .int ot.f])
  rw [← hC1] at i1
  have x1 : LnOk ⟨t, tk, .op z⟩ := ⟨i.t0, ht.ok (by decide), bz⟩
  have i2 := i1.line x1 rfl
  have b1 := i1.fb
  have lb := i.ll
  have lb' : L.length < 16000000 := by omega
  have dd : D.tup [dS "opened", .int t, .int tk.p, .tup [.int tk.a, .int tk.b, .int tk.c], .int tk.f, .int z] = (⟨t, tk, .op z⟩ : Ln).d := rfl
  have t2 : ∀ (k : Tk) (B : Hs), oIx k.d (.int 2) B = .ok (.int k.f) B := fun _ _ => rfl
  unfold bkO
  have b0 := i.fb
  have g1 : C1[C.length]? = some (.lst [D.int ot.f, .int ot.f, .int ot.f, .int (ot.f + 1), .int tk.f, .int ot.f]) := by rw [hC1]; simp
  simp_arith [t2, ← hC1, g1, hz, lineW, b0, b1, dd]
  exact ⟨_, _, _, _, _, _, _, _, _, _, _, _, _, _, _, _, _, _, cr, rfl, i2.up (by omega)⟩
theorem bkS_ok (i : BI A C pr w h b s ps cs n t W H L) {tk ot : Tk} {cr : D} {od : Int} {o6 o7 o8 o9 o10 o11 o13 o15 o16 o17 o18 o19 o20 : Option D} (ht : TkB tk 4294967294) (hn : n ≤ 248) (hod : 0 ≤ od ∧ od < 6) :
    Trn (BJ A pr w h b s ps cs (n + 4) t) (fun _ => False) (bkS [some cr, some (.ref pr), some (.ref w), some (.ref h), some (.ref b), some (.int t), o6, o7, o8, o9, o10, o11, some (.int od), o13, some tk.d, o15, o16, o17, o18, o19, o20] C) := by
  obtain ⟨z, hz, bz⟩ : ∃ z : String, [dS "open", dS "cut", dS "rests", dS "gone", dS "answers", dS "calls"][od.toNat]? = some (dS z) ∧ z ∈ stands := by
    rcases (by omega : od.toNat = 0 ∨ od.toNat = 1 ∨ od.toNat = 2 ∨ od.toNat = 3 ∨ od.toNat = 4 ∨ od.toNat = 5) with q | q | q | q | q | q <;> rw [q] <;> exact ⟨_, rfl, by decide⟩
  obtain ⟨C1, hC1⟩ : ∃ C1, C1 = C ++ [O.lst [dS "open", dS "cut", dS "rests", dS "gone", dS "answers", dS "calls"]] := ⟨_, rfl⟩
  have i1 := i.push (o := O.lst [dS "open", dS "cut", dS "rests", dS "gone", dS "answers", dS "calls"])
  rw [← hC1] at i1
  have x1 : LnOk ⟨t, tk, .st z⟩ := ⟨i.t0, ht.ok (by decide), bz⟩
  have i2 := i1.line x1 rfl
  have b1 := i1.fb
  have lb := i.ll
  have lb' : L.length < 16000000 := by omega
  have dd : D.tup [dS "stands", .int t, .int tk.p, .tup [.int tk.a, .int tk.b, .int tk.c], .int tk.f, dS z] = (⟨t, tk, .st z⟩ : Ln).d := rfl
  unfold bkS
  have b0 := i.fb
  have g1 : C1[C.length]? = some (.lst [dS "open", dS "cut", dS "rests", dS "gone", dS "answers", dS "calls"]) := by rw [hC1]; simp
  simp_arith [← hC1, g1, hz, lineW, b0, b1, dd]
  exact ⟨_, _, _, _, _, _, _, _, _, _, _, _, _, _, _, _, _, _, cr, rfl, i2.up (by omega)⟩
theorem bkW_ok (i : BI A C pr w h b s ps cs n t W H L) {tk ot : Tk} {cr : D} {mn by' : Int} {o6 o7 o8 o9 o10 o12 o15 o16 o17 o18 o19 o20 : Option D} (ht : TkB tk 4294967294) (hn : n ≤ 248) (hmn : 0 ≤ mn ∧ mn < 4) (hby : 0 ≤ by' ∧ by' < 256) :
    Trn (BJ A pr w h b s ps cs (n + 4) t) (fun _ => False) (bkW [some cr, some (.ref pr), some (.ref w), some (.ref h), some (.ref b), some (.int t), o6, o7, o8, o9, o10, some (.int mn), o12, some (.int by'), some tk.d, o15, o16, o17, o18, o19, o20] C) := by
  have lc := fun (o18 : Option D) => lc_of (g := gN 18) (t := tYe) (a := eOp oMod (eOp oAdd (eVar 13) (eOp oMul (eC (.int 37)) (eVar 18))) (eC (.int 256))) (gd := tt) (env := [some cr, some (.ref pr), some (.ref w), some (.ref h), some (.ref b), some (.int t), o6, o7, o8, o9, o10, some (.int mn), o12, some (.int by'), some tk.d, o15, o16, o17, none, o19, o20]) (A := C) (fun k : Nat => D.int (0 + (k : Int) * 1)) (fun _ => true) (fun k : Nat => D.int ((by' + 37 * (0 + (k : Int) * 1)) % 256)) trivial (L := List.range (1 + mn).toNat) (acc := []) (by simp; omega) (fun k hk => by
    show Got _ _
    simp_arith []
    try exact fun _ => trivial)
  have lc := lc none
  rw [List.nil_append, List.filter_eq_self.mpr (by simp)] at lc
  obtain ⟨Dt, hDt⟩ : ∃ Dt : List Int, Dt = (List.range (1 + mn).toNat).map fun k : Nat => (by' + 37 * (0 + (k : Int) * 1)) % 256 := ⟨_, rfl⟩
  have e1 : (List.range (1 + mn).toNat).map (fun k : Nat => D.int ((by' + 37 * (0 + (k : Int) * 1)) % 256)) = Dt.map D.int := by rw [hDt, List.map_map]; rfl
  rw [e1] at lc
  have lD : 1 ≤ Dt.length ∧ Dt.length ≤ 4 := by rw [hDt, List.length_map, List.length_range]; omega
  have bD : ∀ x ∈ Dt, 0 ≤ x ∧ x ≤ 255 := fun x hx => by
    rw [hDt] at hx
    obtain ⟨k, _, rfl⟩ := List.mem_map.mp hx
    omega
  obtain ⟨C1, hC1⟩ : ∃ C1, C1 = C ++ [O.lst (Dt.map D.int)] := ⟨_, rfl⟩
  have i1 := i.push (o := O.lst (Dt.map D.int))
  rw [← hC1] at i1
  have g1 : C1[C.length]? = some (.lst (Dt.map D.int)) := by rw [hC1]; simp
  have rg : List.map (fun k : Nat => D.int (0 + (k : Int) * 1)) (List.range (1 + mn).toNat) = rgL 0 1 (1 + mn).toNat := rfl
  rw [rg] at lc
  obtain ⟨fw, ⟨lw, w1, w2, w3⟩, w4⟩ := i1.fw
  have wk : (nget lw tk.k).getD (.tup []) = dI (W tk) := by rw [w3]; exact w4 tk
  have lw' : lw.length < 16000000 := by omega
  have wl := (i.ww tk).1
  have ea : ∀ B, oAdd (dI (W tk)) (dI Dt) B = .ok (dI (W tk ++ Dt)) B := fun B => dI_add (by omega)
  obtain ⟨C2, hC2⟩ : ∃ C2, C2 = C1.set w (.nd (nput lw tk.k (dI (W tk ++ Dt)))) := ⟨_, rfl⟩
  have i2 := i1.wr (k := tk) (e := Dt) w1 (by omega) bD
  rw [← hC2] at i2
  have x1 : LnOk ⟨t, tk, .wr Dt⟩ := ⟨i.t0, ht.ok (by decide), ⟨bD, lD.1, by omega⟩⟩
  have i3 := i2.line x1 rfl
  have b1 := i2.fb
  have lb := i2.ll
  have lb' : L.length < 16000000 := by omega
  have dd : D.tup [dS "wrote", .int t, .int tk.p, .tup [.int tk.a, .int tk.b, .int tk.c], .int tk.f, dI Dt] = (⟨t, tk, .wr Dt⟩ : Ln).d := rfl
  have td : D.tup (Dt.map D.int) = dI Dt := rfl
  unfold bkW
  simp_arith [lc, ← hC1, g1, td, w1, keyN_tk, wk, ea, z8y lw', ← hC2, lineW, b1, dd]
  exact ⟨_, _, _, _, _, _, _, _, _, _, _, _, _, _, _, _, _, _, cr, rfl, i3.up (by omega)⟩
theorem bkR_ok (i : BI A C pr w h b s ps cs n t W H L) {tk ot : Tk} {cr : D} {so mn od by' : Int} {o6 o8 o9 o10 o16 o17 o18 o19 o20 : Option D} (ht : TkB tk 4294967294) (ho : TkB ot 4294967294) (hn : n ≤ 244) (hmn : 0 ≤ mn ∧ mn < 4) (hod : 0 ≤ od ∧ od < 6) (hby : 0 ≤ by' ∧ by' < 256) :
    Trn (BJ A pr w h b s ps cs (n + 4) t) (fun _ => False) (bkR [some cr, some (.ref pr), some (.ref w), some (.ref h), some (.ref b), some (.int t), o6, some (.int so), o8, o9, o10, some (.int mn), some (.int od), some (.int by'), some tk.d, some ot.d, o16, o17, o18, o19, o20] C) := by
  obtain ⟨fw, ⟨lw, w1, w2, w3⟩, w4⟩ := i.fw
  have wk : (nget lw ot.k).getD (.tup []) = dI (W ot) := by rw [w3]; exact w4 ot
  obtain ⟨fh, ⟨lh, h1, h2, h3⟩, h4⟩ := i.fh
  have hk : (nget lh tk.k).getD (.int 0) = .int (H tk) := by rw [h3]; exact h4 tk
  have hh0 := i.hh tk
  obtain ⟨wl, wb⟩ := i.ww ot
  obtain ⟨R, hR⟩ : ∃ R, R = (W ot).drop (H tk).toNat := ⟨_, rfl⟩
  obtain ⟨D0, hD0⟩ : ∃ D0, D0 = R.take (1 + mn).toNat := ⟨_, rfl⟩
  have lR : R.length ≤ 976 := by rw [hR, List.length_drop]; omega
  have bR : ∀ x ∈ R, 0 ≤ x ∧ x ≤ 255 := fun x hx => wb x (by rw [hR] at hx; exact List.mem_of_mem_drop hx)
  have lD : D0.length ≤ 4 := by rw [hD0, List.length_take]; omega
  have bD : ∀ x ∈ D0, 0 ≤ x ∧ x ≤ 255 := fun x hx => bR x (by rw [hD0] at hx; exact List.mem_of_mem_take hx)
  have s1 : ∀ B, oSl (dI (W ot)) (some (H tk)) none B = .ok (dI R) B := fun B => by
    unfold dI
    rw [z91, z6j hh0, ← List.map_drop, ← hR]
  have s2 : ∀ B, oSl (dI R) none (some (1 + mn)) B = .ok (dI D0) B := fun B => by
    unfold dI
    rw [z91, z78 (by omega), ← List.map_take, ← hD0]
  have td : D.tup [.int by', .int od] = dI [by', od] := rfl
  have tb : D.tup [.int by'] = dI [by'] := rfl
  have t0 : D.tup [] = dI [] := rfl
  have a1 : ∀ B, oAdd (dI R) (dI [by', od]) B = .ok (dI (R ++ [by', od])) B := fun B => dI_add (by simp only [List.length_cons, List.length_nil]; omega)
  have a2 : ∀ B, oAdd (dI D0) (dI [by']) B = .ok (dI (D0 ++ [by'])) B := fun B => dI_add (by simp only [List.length_cons, List.length_nil]; omega)
  have go := fun (Dt La : List Int) C o6 o7 o8 o9 o10 o11 o12 o13 o16 o18 o20 (i : BI A C pr w h b s ps cs n t W H L) h1 h2 => bkT_ok (o6 := o6) (o7 := o7) (o8 := o8) (o9 := o9) (o10 := o10) (o11 := o11) (o12 := o12) (o13 := o13) (o16 := o16) (o18 := o18) (o20 := o20) i (tk := tk) (ot := ot) (Dt := Dt) (La := La) (cr := cr) (ht.ok (by decide)) (ho.ok (by decide)) (by omega) h1 h2
  have b2 : ∀ x ∈ ([by', od] : List Int), 0 ≤ x ∧ x ≤ 255 := fun x hx => by
    simp only [List.mem_cons, List.not_mem_nil, or_false] at hx
    rcases hx with rfl | rfl <;> omega
  unfold bkR
  by_cases q1 : so = 21
  · by_cases q2 : od < 2
    · simp_arith [w1, h1, keyN_tk, wk, hk, s1, s2, q1, q2, td, a1]
      exact go (R ++ [by', od]) [by', od] C _ _ _ _ _ _ _ _ _ _ _ i ⟨by simp only [List.length_append, List.length_cons, List.length_nil]; omega, fun x hx => by
        rcases List.mem_append.mp hx with z | z
        · exact bR x z
        · exact b2 x z⟩ ⟨by simp, b2⟩
    · by_cases q3 : od = 2
      · simp_arith [w1, h1, keyN_tk, wk, hk, s1, s2, q1, q3, tb, a2]
        exact go (D0 ++ [by']) [] C _ _ _ _ _ _ _ _ _ _ _ i ⟨by simp only [List.length_append, List.length_cons, List.length_nil]; omega, fun x hx => by
          rcases List.mem_append.mp hx with z | z
          · exact bD x z
          · simp only [List.mem_singleton] at z; omega⟩ ⟨by simp, by simp⟩
      · have lc := lc_of (g := gN 20) (t := tYe) (a := eOp oMod (eOp oAdd (eVar 20) (eVar 12)) (eC (.int 256))) (gd := tt) (env := [some cr, some (.ref pr), some (.ref w), some (.ref h), some (.ref b), some (.int t), o6, some (.int so), o8, o9, o10, some (.int mn), some (.int od), some (.int by'), some tk.d, some ot.d, o16, some (dI D0), o18, some (.tup []), none]) (A := C) D.int (fun _ => true) (fun x => D.int ((x + od) % 256)) trivial (L := D0) (acc := []) (by simp; omega) (fun k hk => by
          show Got _ _
          simp_arith []
          try exact fun _ => trivial)
        rw [List.nil_append, List.filter_eq_self.mpr (by simp)] at lc
        obtain ⟨E, hE⟩ : ∃ E : List Int, E = D0.map fun x => (x + od) % 256 := ⟨_, rfl⟩
        have e1 : D0.map (fun x => D.int ((x + od) % 256)) = E.map D.int := by rw [hE, List.map_map]; rfl
        rw [e1, q1] at lc
        obtain ⟨C1, hC1⟩ : ∃ C1, C1 = C ++ [O.lst (E.map D.int)] := ⟨_, rfl⟩
        have i1 := i.push (o := O.lst (E.map D.int))
        rw [← hC1] at i1
        have g1 : C1[C.length]? = some (.lst (E.map D.int)) := by rw [hC1]; simp
        have tE : D.tup (E.map D.int) = dI E := rfl
        have wq : ∀ env, wSeq (eC (dI D0)) env C = .ok ⟨D0.map D.int, tt⟩ C := fun _ => rfl
        have wk2 : wkA C (dI D0) = some ⟨D0.map D.int, tt⟩ := rfl
        simp_arith [w1, h1, keyN_tk, wk, hk, s1, s2, q1, q2, q3, wk2, lc, ← hC1, g1, tE]
        exact go E [] C1 _ _ _ _ _ _ _ _ _ _ _ i1 ⟨by rw [hE, List.length_map]; omega, fun x hx => by
          rw [hE] at hx
          obtain ⟨y, _, rfl⟩ := List.mem_map.mp hx
          omega⟩ ⟨by simp, by simp⟩
  · simp_arith [w1, h1, keyN_tk, wk, hk, s1, s2, q1]
    exact go D0 [] C _ _ _ _ _ _ _ _ _ _ _ i ⟨by omega, bD⟩ ⟨by simp, by simp⟩
end

theorem get0 {cs : List Int} : ∃ z : Int, (cs.map D.int ++ [D.int 0])[0]? = some (.int z) := by
  cases cs with
  | nil => exact ⟨0, rfl⟩
  | cons a r => exact ⟨a, rfl⟩
theorem pw0 : ∀ {T : List Int}, (∀ t ∈ T, t = 0) → T.Pairwise (· ≤ ·)
  | [], _ => .nil
  | a :: T, h => by
    refine List.Pairwise.cons (fun c hc => ?_) (pw0 fun t ht => h t (List.mem_cons_of_mem _ ht))
    rw [h a List.mem_cons_self, h c (List.mem_cons_of_mem _ hc)]
    exact Int.le_refl 0
theorem book_ok {r : Nat} {cs : List Int} {A : Hs} (hr : A[r]? = some (.lst (cs.map D.int))) (hc : cs.length ≤ 63) :
    ∃ (L : List Ln) (b : Nat) (A1 : Hs), F_l_book [.ref r] A = .ok (.ref b) A1 ∧ A1[b]? = some (.lst (L.map Ln.d)) ∧ A.length ≤ b ∧ BkOk L ∧ L.length ≤ 254 ∧ Fr [] A A1 := by
  suffices H : Rk (F_l_book [.ref r] A) fun v A1 => ∃ (L : List Ln) (b : Nat), v = .ref b ∧ A1[b]? = some (.lst (L.map Ln.d)) ∧ A.length ≤ b ∧ BkOk L ∧ L.length ≤ 254 ∧ Fr [] A A1 by
    obtain ⟨_, A1, e, L, b, rfl, h⟩ := H.ex
    exact ⟨L, b, A1, e, h⟩
  have lr := lt_of_get hr
  obtain ⟨z, hz⟩ := get0 (cs := cs)
  have as : ∀ B : Hs, ad_ B (some (cs.map D.int)) (some [D.int 0]) = .ok (.ref B.length) (B ++ [.lst (cs.map D.int ++ [.int 0])]) := fun B => zbb (by simp only [List.length_map, List.length_cons, List.length_nil]; omega)
  obtain ⟨A1, hA1⟩ : ∃ A1, A1 = A ++ [O.lst [D.int 0]] ++ [.lst (cs.map D.int ++ [.int 0])] := ⟨_, rfl⟩
  have f1 : Fr [] A A1 := by rw [hA1]; exact Fr.then_push .push
  obtain ⟨ps, pr, A2, e2, g2, hp3, hp, f2⟩ := pairs_ok (c := z) (A := A1)
  have l1 : A1.length = A.length + 2 := by rw [hA1]; simp
  have lp := lt_of_get g2
  obtain ⟨A3, hA3⟩ : ∃ A3, A3 = A2 ++ [O.nd []] ++ [O.nd []] ++ [O.lst [D.int 0]] ++ [.lst (cs.map D.int ++ [.int 0])] := ⟨_, rfl⟩
  have f3 : Fr [] A2 A3 := by rw [hA3]; exact Fr.then_push (Fr.then_push (Fr.then_push .push))
  have g3 := f3.get g2 (by simp)
  obtain ⟨L0, b, A4, e4, g4, hb4, hl4, hL4, f4⟩ := begun_ok (n := z / 151200) g3 hp3 hp
  have hr2 := (f1.trans f2).get hr (by simp)
  have hr4 := ((f1.trans f2).trans (f3.trans f4)).get hr (by simp)
  have l3 : A3.length = A2.length + 4 := by rw [hA3]; simp
  have w3 : A3[A2.length]? = some (.nd []) := by rw [hA3]; simp
  have h3 : A3[A2.length + 1]? = some (.nd []) := by rw [hA3]; simp
  have w4 := f4.get w3 (by simp)
  have h4 := f4.get h3 (by simp)
  have g24 := f4.get g3 (by simp)
  obtain ⟨cs', hcs'⟩ : ∃ cs', cs' = cs.drop 1 := ⟨_, rfl⟩
  have hc' : cs'.length ≤ 62 := by rw [hcs', List.length_drop]; omega
  have dr : List.drop (Int.toNat 1) (cs.map D.int) = cs'.map D.int := by rw [hcs', List.map_drop]; rfl
  have dr' : List.drop 1 (cs.map D.int) = cs'.map D.int := by rw [hcs', List.map_drop]
  obtain ⟨A5, hA5⟩ : ∃ A5, A5 = A4 ++ [O.lst (cs'.map D.int)] := ⟨_, rfl⟩
  have f5 : Fr [] A4 A5 := by rw [hA5]; exact .push
  have l12 := f1.le
  have l2 := f2.le
  have l4 := f4.le
  have lb4 := lt_of_get g4
  have i0 : BI A A5 pr A2.length (A2.length + 1) b A4.length ps cs' 0 0 (fun _ => []) (fun _ => 0) L0 := by
    refine ⟨f5.get g24 (by simp), by rw [hA5]; simp, ⟨fun _ => none, ⟨[], f5.get w4 (by simp), Nat.le_refl _, fun _ => rfl⟩, fun _ => rfl⟩, ⟨fun _ => none, ⟨[], f5.get h4 (by simp), Nat.le_refl _, fun _ => rfl⟩, fun _ => rfl⟩, f5.get g4 (by simp), (f1.trans f2).trans ((f3.trans f4).trans f5), fun _ => by simp, fun _ => Int.le_refl 0, by omega, fun x hx => ⟨(hL4 x hx).1, by rw [(hL4 x hx).2]; exact Int.le_refl 0⟩, ?_, Int.le_refl 0, by omega⟩
    exact pw0 fun t ht => by obtain ⟨x, hx, rfl⟩ := List.mem_map.mp ht; exact (hL4 x hx).2
  have q1 : A1[A.length + 1]? = some (.lst (cs.map D.int ++ [.int 0])) := by rw [hA1]; simp
  have q3 : A3[A2.length + 3]? = some (.lst (cs.map D.int ++ [.int 0])) := by rw [hA3]; simp
  have lr2 := lt_of_get hr2
  have q5 : A5[A4.length]? = some (.lst (cs'.map D.int)) := by rw [hA5]; simp
  rw [book_eq]
  simp_arith [hr, as, ← hA1, q1, hz, e2, hr2, ← hA3, q3, e4, hr4, dr, dr', ← hA5, q5]
  have fin : ∀ {C n t W H L}, BI A C pr A2.length (A2.length + 1) b A4.length ps cs' n t W H L → n ≤ 4 * 62 → ∃ (L : List Ln) (b' : Nat), D.ref b = .ref b' ∧ C[b']? = some (.lst (L.map Ln.d)) ∧ A.length ≤ b' ∧ BkOk L ∧ L.length ≤ 254 ∧ Fr [] A C := fun i hn =>
    ⟨_, b, rfl, i.fb, i.fd.2.2.1, ⟨by have := i.ll; omega, fun x hx => (i.lx x hx).1, i.ls⟩, by have := i.ll; omega, i.ff⟩
  refine for_go (R := fun rs => Rk (finR (seqR rs _)) _) (fun j e C => ∃ t, BJ A pr A2.length (A2.length + 1) b A4.length ps cs' (4 * j) t e C) ⟨0, _, _, _, _, _, _, _, _, _, _, _, _, _, _, _, _, _, _, _, rfl, i0⟩ (fun i e C _ h => by
    obtain ⟨t, _, _, _, _, _, _, _, _, _, _, _, _, _, _, _, _, _, _, _, _, i⟩ := h
    exact i.fc) ?_ ?_
  · rintro j e C d hd ⟨t, o6, o7, o8, o9, o10, o11, o12, o13, o14, o15, o16, o17, o18, o19, o20, W, H, L, cr, rfl, i⟩
    rw [List.getElem?_map] at hd
    obtain ⟨c, hx, rfl⟩ := Option.map_eq_some_iff.mp hd
    have lj : j < cs'.length := (List.getElem?_eq_some_iff.mp hx).1
    obtain ⟨C0, hC0⟩ : ∃ C0, C0 = C ++ [O.lst [.int 24, .int 3, .int 2, .int 2, .int 4, .int 6, .int 256]] := ⟨_, rfl⟩
    have i1 := i.push (o := O.lst [.int 24, .int 3, .int 2, .int 2, .int 4, .int 6, .int 256])
    rw [← hC0] at i1
    have g0 : C0[C.length]? = some (.lst (([24, 3, 2, 2, 4, 6, 256] : List Int).map D.int)) := by rw [hC0]; simp
    obtain ⟨C1, e1, g1, f1⟩ := digits_ok (c := c) g0 (by intro s hs; simp only [List.mem_cons, List.not_mem_nil, or_false] at hs; omega) (by simp)
    obtain ⟨d0, d1, d2, d3, d4, d5, d6, hdd, b0, b1, b2, b3, b4, b5, b6⟩ : ∃ d0 d1 d2 d3 d4 d5 d6 : Int, digs c [24, 3, 2, 2, 4, 6, 256] = [d0, d1, d2, d3, d4, d5, d6] ∧ (0 ≤ d0 ∧ d0 < 24) ∧ (0 ≤ d1 ∧ d1 < 3) ∧ (0 ≤ d2 ∧ d2 < 2) ∧ (0 ≤ d3 ∧ d3 < 2) ∧ (0 ≤ d4 ∧ d4 < 4) ∧ (0 ≤ d5 ∧ d5 < 6) ∧ (0 ≤ d6 ∧ d6 < 256) :=
      ⟨_, _, _, _, _, _, _, rfl, by omega, by omega, by omega, by omega, by omega, by omega, by omega⟩
    have l0 : C0.length = C.length + 1 := by rw [hC0]; simp
    rw [hdd, l0] at g1
    rw [l0] at e1
    have gl : ∀ (gs : List G) (env : Sl), gL gs (.ref (C.length + 1)) env C1 = gAll gs [D.int d0, .int d1, .int d2, .int d3, .int d4, .int d5, .int d6] env C1 := fun gs env => gL_ (by rw [z7k, g1]; rfl)
    have i2 := (i1.frm f1).tick (t' := t + d3) (by omega)
    have gp := i2.fp
    obtain ⟨p, hpp⟩ : ∃ p, ps[d1.toNat]? = some p := ⟨_, List.getElem?_eq_getElem (by omega)⟩
    have hpi : (ps.map Pr.d)[d1.toNat]? = some (.tup [p.l.d, p.r.d]) := by rw [List.getElem?_map, hpp]; rfl
    obtain ⟨bl, br⟩ := hp p (List.mem_of_getElem? hpp)
    have bl' : TkB p.l 4294967294 := ⟨bl.p, bl.a, bl.b, bl.c, bl.f.1, by have := bl.f.2; omega⟩
    obtain ⟨tk, ot, h1, h2, bt, bo⟩ : ∃ tk ot : Tk, [p.l.d, p.r.d][d2.toNat]? = some tk.d ∧ [p.l.d, p.r.d][(1 - d2).toNat]? = some ot.d ∧ TkB tk 4294967294 ∧ TkB ot 4294967294 := by
      rcases (by omega : d2 = 0 ∨ d2 = 1) with q | q <;> subst q
      · exact ⟨p.l, p.r, rfl, rfl, bl', br⟩
      · exact ⟨p.r, p.l, rfl, rfl, br, bl'⟩
    have imp : ∀ {e C1 n t}, BJ A pr A2.length (A2.length + 1) b A4.length ps cs' (n + 4) t e C1 → n = 4 * j → ∃ t, BJ A pr A2.length (A2.length + 1) b A4.length ps cs' (4 * (j + 1)) t e C1 := fun h hn => ⟨_, by rw [show 4 * (j + 1) = 4 * j + 4 by omega, ← hn]; exact h⟩
    show Got _ _
    have dn : ∀ e C1, BJ A pr A2.length (A2.length + 1) b A4.length ps cs' (4 * j + 4) (t + d3) e C1 → ∃ t, BJ A pr A2.length (A2.length + 1) b A4.length ps cs' (4 * (j + 1)) t e C1 := fun e C1 h => imp h rfl
    by_cases k1 : d0 = 0
    · simp_arith [← hC0, e1, gl, g1, gp, hpi, h1, h2, k1]
      exact Trn.imp (bkO_ok (ot := ot) (cr := cr) (o6 := some (.int c)) (o7 := some (.int 0)) (o8 := some (.int d1)) (o9 := some (.int d2)) (o10 := some (.int d3)) (o11 := some (.int d4)) (o13 := some (.int d6)) (o16 := o16) (o17 := o17) (o18 := o18) (o19 := o19) (o20 := o20) i2 bt bo (by omega) b5) dn
    · by_cases k2 : d0 < 9
      · simp_arith [← hC0, e1, gl, g1, gp, hpi, h1, h2, k1, k2]
        exact Trn.imp (bkW_ok (ot := ot) (cr := cr) (o6 := some (.int c)) (o7 := some (.int d0)) (o8 := some (.int d1)) (o9 := some (.int d2)) (o10 := some (.int d3)) (o12 := some (.int d5)) (o15 := some ot.d) (o16 := o16) (o17 := o17) (o18 := o18) (o19 := o19) (o20 := o20) i2 bt (by omega) b4 b6) dn
      · by_cases k3 : d0 < 22
        · simp_arith [← hC0, e1, gl, g1, gp, hpi, h1, h2, k1, k2, k3]
          exact Trn.imp (bkR_ok (cr := cr) (o6 := some (.int c)) (o8 := some (.int d1)) (o9 := some (.int d2)) (o10 := some (.int d3)) (o16 := o16) (o17 := o17) (o18 := o18) (o19 := o19) (o20 := o20) i2 bt bo (by omega) b4 b5 b6) dn
        · simp_arith [← hC0, e1, gl, g1, gp, hpi, h1, h2, k1, k2, k3]
          exact Trn.imp (bkS_ok (ot := ot) (cr := cr) (o6 := some (.int c)) (o7 := some (.int d0)) (o8 := some (.int d1)) (o9 := some (.int d2)) (o10 := some (.int d3)) (o11 := some (.int d4)) (o13 := some (.int d6)) (o15 := some ot.d) (o16 := o16) (o17 := o17) (o18 := o18) (o19 := o19) (o20 := o20) i2 bt (by omega) b5) dn
  · rintro e C ⟨t, o6, o7, o8, o9, o10, o11, o12, o13, o14, o15, o16, o17, o18, o19, o20, W, H, L, cr, rfl, i⟩
    rw [List.length_map] at i
    simp_arith []
    exact fin i (by omega)

theorem Rk.true {r : RE D} (h : Rk r fun v _ => v = .bl true) : ∃ A, r = .ok (.bl true) A := by
  obtain ⟨v, A1, e, rfl⟩ := h.ex
  exact ⟨A1, e⟩

/-! papers -/
def prD (p : Nat × Nat) : D := .tup [.int (p.1 : Nat), .int (p.2 : Nat)]
def wps : Nat → List Ln → Tk → List (Nat × Nat)
  | _, [], _ => []
  | o, x :: r, q => (List.range (wrE q x).length).map (fun i => (o, i)) ++ wps (o + 1) r q
theorem wps_app {q : Tk} : ∀ {P R : List Ln} {o : Nat}, wps o (P ++ R) q = wps o P q ++ wps (o + P.length) R q
  | [], R, o => rfl
  | x :: P, R, o => by
    rw [List.cons_append, wps, wps, wps_app (P := P), List.append_assoc, List.length_cons, show o + 1 + P.length = o + (P.length + 1) by omega]
theorem wps_snoc {P : List Ln} {x : Ln} {q : Tk} {o : Nat} : wps o (P ++ [x]) q = wps o P q ++ (List.range (wrE q x).length).map (fun i => (o + P.length, i)) := by
  rw [wps_app, wps, wps, List.append_nil]
theorem wps_len {q : Tk} : ∀ {P : List Ln} {o : Nat}, (wps o P q).length = (byW P q).length
  | [], o => rfl
  | x :: P, o => by
    rw [wps, List.length_append, List.length_map, List.length_range, wps_len (P := P)]
    simp [byW]
/-- a row of the paper, by the lines P ahead of the reading line x -/
def rowL (P : List Ln) (x : Ln) : List (Nat × Nat) := match x.e, own P x.k with
  | .rd l, some o => ((wps 0 P (ptn x.k o)).drop (byR P x.k).length).take l.length
  | _, _ => []
def isRd (x : Ln) : Bool := match x.e with
  | .rd _ => true
  | _ => false
/-- the law's paper -/
def papL : List Ln → List Ln → List (List (Nat × Nat))
  | _, [] => []
  | P, x :: r => (if isRd x then [rowL P x] else []) ++ papL (P ++ [x]) r
theorem papL_snoc : ∀ {r P : List Ln} {x : Ln}, papL P (r ++ [x]) = papL P r ++ (if isRd x then [rowL (P ++ r) x] else [])
  | [], P, x => by simp [papL]
  | y :: r, P, x => by
    rw [List.cons_append, papL, papL, papL_snoc (r := r), List.append_assoc, List.append_assoc]; rfl
def allRight : List Ln → List Ln → Prop
  | _, [] => True
  | P, x :: r => rightP P x = true ∧ allRight (P ++ [x]) r
theorem fwr_none : ∀ {r P : List Ln}, fwr P r = none → allRight P r
  | [], _, _ => trivial
  | x :: r, P, h => by
    rw [fwr] at h
    split at h
    · rename_i c; exact ⟨c, fwr_none h⟩
    · cases h
theorem allRight_at : ∀ {r P : List Ln} {n : Nat} {x : Ln}, allRight P r → r[n]? = some x → rightP (P ++ r.take n) x = true
  | [], _, _, _, _, h => by simp at h
  | y :: r, P, 0, x, h, e => by simp at e; subst e; simpa using h.1
  | y :: r, P, n + 1, x, h, e => by
    have := allRight_at (n := n) h.2 (by simpa using e)
    simpa using this
theorem allRight_one : ∀ {r P : List Ln}, OneOp P → allRight P r → OneOp (P ++ r)
  | [], P, h, _ => by simpa using h
  | x :: r, P, h, a => by
    have := allRight_one (r := r) (oneOp_snoc h a.1) a.2
    simpa using this
/-- the whole book's places, cut, are those ahead -/
theorem row_eq {L : List Ln} {n : Nat} {x : Ln} {l : List Int} {o : Int} (hr : rightP (L.take n) x = true) (hx : L[n]? = some x) (he : x.e = .rd l) (ho : own (L.take n) x.k = some o) :
    ((wps 0 L (ptn x.k o)).drop (byR (L.take n) x.k).length).take l.length = rowL (L.take n) x := by
  unfold rowL
  rw [he, ho]
  simp only
  unfold rightP at hr
  rw [he] at hr
  simp only [ho] at hr
  split at hr
  · unfold goesOn at hr
    have h1 := of_decide_eq_true hr
    have h2 := congrArg List.length h1
    rw [List.length_take, List.length_append] at h2
    have h3 : (byR (L.take n) x.k).length + l.length ≤ (wps 0 (L.take n) (ptn x.k o)).length := by rw [wps_len]; omega
    have e : L = L.take n ++ L.drop n := (List.take_append_drop n L).symm
    rw [e, wps_app]
    rw [List.take_append_drop]
    rw [List.drop_append_of_le_length (by omega), List.take_append_of_le_length (by rw [List.length_drop]; omega)]
  · cases hr
/-- a row on the heap; a list of such -/
def IsRow (A : Hs) (r : Nat) (w : List (Nat × Nat)) : Prop := A[r]? = some (.lst (w.map prD))
structure IsPp (A : Hs) (p : Nat) (rs : List Nat) (R : List (List (Nat × Nat))) : Prop where
  o : A[p]? = some (.lst (rs.map D.ref))
  l : rs.length = R.length
  r : ∀ (i : Nat) (r : Nat) (w : List (Nat × Nat)), rs[i]? = some r → R[i]? = some w → IsRow A r w
theorem IsPp.frm {A B : Hs} {p : Nat} {rs : List Nat} {R : List (List (Nat × Nat))} {s : List Nat} (h : IsPp A p rs R) (f : Fr s A B) (hp : p ∉ s) (hr : ∀ r ∈ rs, r ∉ s) : IsPp B p rs R :=
  ⟨f.get h.o hp, h.l, fun i r w h1 h2 => f.get (h.r i r w h1 h2) (hr r (List.mem_of_getElem? h1))⟩
def pyP (p : Nat × Nat) : PyData := .tuple [.int (p.1 : Nat), .int (p.2 : Nat)]
def pyR (R : List (List (Nat × Nat))) : PyData := .list (R.map fun w => .list (w.map pyP))
theorem py_row {w : List (Nat × Nat)} {A : Hs} {n : Nat} : allSome ((w.map prD).map (pyA A (n + 2))) = some (w.map pyP) := by
  induction w with
  | nil => rfl
  | cons x l ih =>
    rw [List.map_cons, List.map_cons]
    have : pyA A (n + 2) (prD x) = some (pyP x) := by
      show (allSome ([D.int (x.1 : Nat), .int (x.2 : Nat)].map (pyA A (n + 1)))).map PyData.tuple = _
      simp only [List.map_cons, List.map_nil]
      rfl
    rw [this, allSome, ih]; rfl
theorem py_rows {A : Hs} {n : Nat} : ∀ {rs : List Nat} {R : List (List (Nat × Nat))}, rs.length = R.length → (∀ (i : Nat) (r : Nat) (w : List (Nat × Nat)), rs[i]? = some r → R[i]? = some w → IsRow A r w) → allSome ((rs.map D.ref).map (pyA A (n + 3))) = some (R.map fun w => PyData.list (w.map pyP))
  | [], [], _, _ => rfl
  | [], _ :: _, h, _ => by simp at h
  | _ :: _, [], h, _ => by simp at h
  | r :: rs, w :: R, h, k => by
    rw [List.map_cons, List.map_cons]
    have : pyA A (n + 3) (.ref r) = some (.list (w.map pyP)) := by
      rw [py_lst (k 0 r w rfl rfl), py_row]; rfl
    rw [this, allSome, py_rows (rs := rs) (R := R) (by simpa using h) fun i r w h1 h2 => k (i + 1) r w (by simpa using h1) (by simpa using h2)]
    rfl
theorem IsPp.py {A : Hs} {p : Nat} {rs : List Nat} {R : List (List (Nat × Nat))} (h : IsPp A p rs R) : pyA A 40 (.ref p) = some (pyR R) := by
  rw [py_lst h.o, py_rows h.l h.r]; rfl
theorem eqv_pyP {a b : Nat × Nat} : PyData.eqv (pyP a) (pyP b) = decide (a = b) := by
  unfold pyP
  simp only [PyData.eqv, PyData.eqvAll, Bool.and_true]
  rw [Bool.eq_iff_iff]
  simp only [Bool.and_eq_true, beq_iff_eq, decide_eq_true_eq]
  obtain ⟨a1, a2⟩ := a
  obtain ⟨b1, b2⟩ := b
  constructor
  · rintro ⟨h1, h2⟩
    have e1 : a1 = b1 := Int.ofNat.inj h1
    have e2 : a2 = b2 := Int.ofNat.inj h2
    rw [e1, e2]
  · intro h
    cases h
    exact ⟨rfl, rfl⟩
theorem eqv_list {α : Type} [DecidableEq α] {f : α → PyData} (h : ∀ a b, PyData.eqv (f a) (f b) = decide (a = b)) : ∀ {l m : List α}, PyData.eqvAll (l.map f) (m.map f) = decide (l = m)
  | [], [] => by simp [PyData.eqvAll]
  | [], _ :: _ => by simp [PyData.eqvAll]
  | _ :: _, [] => by simp [PyData.eqvAll]
  | a :: l, b :: m => by
    rw [List.map_cons, List.map_cons, PyData.eqvAll, h, eqv_list h, Bool.eq_iff_iff]
    simp
theorem eqv_pyR {R S : List (List (Nat × Nat))} : PyData.eqv (pyR R) (pyR S) = decide (R = S) := by
  unfold pyR
  rw [PyData.eqv]
  exact eqv_list fun a b => by rw [PyData.eqv]; exact eqv_list fun _ _ => eqv_pyP
theorem eqA_pp {A : Hs} {p q : Nat} {rs ss : List Nat} {R S : List (List (Nat × Nat))} (h : IsPp A p rs R) (k : IsPp A q ss S) : eqA A (.ref p) (.ref q) = some (decide (R = S)) := by
  unfold eqA
  rw [h.py, k.py]
  simp only
  rw [eqv_pyR]
/-! the program's paper -/
theorem rgprs {k n : Nat} : (List.range n).map (fun i : Nat => D.tup [.int (k : Nat), .int (0 + (i : Nat) * 1)]) = ((List.range n).map fun i => (k, i)).map prD := by
  rw [List.map_map]
  refine List.map_congr_left fun i _ => ?_
  show D.tup [.int (k : Int), .int (0 + (i : Int) * 1)] = D.tup [.int (k : Int), .int (i : Int)]
  rw [show (0 + (i : Int) * 1) = (i : Int) by omega]
/-- what the dict of the places written holds -/
def WdI (C : Hs) (d n : Nat) (P : List Ln) (M : Nat) : Prop := ∃ f, NdI C d n f ∧ ∀ k, match f k with
  | none => wps 0 P k = []
  | some v => ∃ r, v = .ref r ∧ r < M ∧ IsRow C r (wps 0 P k)
theorem WdI.frm {A B : Hs} {d n M : Nat} {P : List Ln} {s : List Nat} (h : WdI A d n P M) (f : Fr s A B) (hd : d ∉ s) (hs : ∀ q ∈ s, M ≤ q) : WdI B d n P M := by
  obtain ⟨g, h1, h2⟩ := h
  refine ⟨g, h1.frame f hd, fun k => ?_⟩
  have := h2 k
  cases q : g k with
  | none => rw [q] at this; exact this
  | some v =>
    rw [q] at this
    obtain ⟨r, e, hM, h3⟩ := this
    exact ⟨r, e, hM, f.get h3 fun hm => by have := hs r hm; omega⟩
theorem WdI.len {C : Hs} {d n M : Nat} {P : List Ln} (h : WdI C d n P M) : ∃ l, C[d]? = some (.nd l) ∧ l.length ≤ n := by
  obtain ⟨f, ⟨l, h1, h2, _⟩, _⟩ := h
  exact ⟨l, h1, h2⟩
theorem places_ok {A : Hs} {b : Nat} {L : List Ln} (hb : A[b]? = some (.lst (L.map Ln.d))) (h : BkOk L) : ∃ d A1, F_places_written [.ref b] A = .ok (.ref d) A1 ∧ A.length ≤ d ∧ WdI A1 d L.length L A1.length ∧ Fr [] A A1 := by
  suffices H : Rk (F_places_written [.ref b] A) fun v A1 => ∃ d, v = .ref d ∧ A.length ≤ d ∧ WdI A1 d L.length L A1.length ∧ Fr [] A A1 by
    obtain ⟨_, A1, e, d, rfl, z⟩ := H.ex
    exact ⟨d, A1, e, z⟩
  have hl := h.l
  have lb := lt_of_get hb
  obtain ⟨A0, hA0⟩ : ∃ A0, A0 = A ++ [O.nd []] := ⟨_, rfl⟩
  have f0 : Fr [] A A0 := by rw [hA0]; exact .push
  have hb0 := f0.get hb (by simp)
  have w0 : WdI A0 A.length 0 [] A0.length := ⟨fun _ => none, ⟨[], by rw [hA0]; simp, Nat.le_refl _, fun _ => rfl⟩, fun _ => rfl⟩
  unfold F_places_written
  simp_arith [← hA0, hb0]
  refine for_go (R := fun rs => Rk (finR (seqR rs _)) _) (fun i e C => ∃ o2 o3 o4 o5 : Option D, e = [some (.ref b), some (.ref A.length), o2, o3, o4, o5] ∧ WdI C A.length i (L.take i) C.length ∧ Fr [] A C) ⟨_, _, _, _, rfl, w0, f0⟩ (fun i e C _ h => by obtain ⟨_, _, _, _, _, _, h⟩ := h; exact h.get hb (by simp)) ?_ ?_
  · rintro i _ C d hd ⟨o2, o3, o4, o5, rfl, hw, fC⟩
    obtain ⟨x', q1, rfl⟩ := enumL_get hd
    rw [List.getElem?_map] at q1
    obtain ⟨x, hx, rfl⟩ := Option.map_eq_some_iff.mp q1
    have hi : i < L.length := (List.getElem?_eq_some_iff.mp hx).1
    have tk : L.take (i + 1) = L.take i ++ [x] := by rw [List.take_succ, hx]; rfl
    have lt : (L.take i).length = i := by rw [List.length_take]; omega
    have other : (∀ k, wrE k x = []) → WdI C A.length (i + 1) (L.take (i + 1)) C.length := fun e => by
      obtain ⟨f, h1, h2⟩ := hw
      refine ⟨f, h1.more (by omega), fun k => ?_⟩
      rw [tk, wps_snoc, e k]
      simpa using h2 k
    show Got _ _
    cases e : x.e with
    | wr l =>
      have hxe := (h.x x (List.mem_of_getElem? hx)).e
      rw [e] at hxe
      have ll : l.length ≤ 1000 := hxe.2.2
      obtain ⟨f, ⟨ld, h1, h2, h3⟩, h4⟩ := hw
      have ld' : ld.length < 16000000 := by omega
      obtain ⟨W, hW⟩ : ∃ W, W = (List.range l.length).map fun j => (i, j) := ⟨_, rfl⟩
      have lc := fun (o5 : Option D) => lc_of (g := gN 5) (t := tYe) (a := eTup (aCons (eVar 2) (aCons (eVar 5) aNil))) (gd := tt) (env := [some (.ref b), some (.ref A.length), some (.int i), some x.d, o4, none]) (A := C) (fun j : Nat => D.int (0 + (j : Nat) * 1)) (fun _ => true) (fun j : Nat => D.tup [.int (i : Nat), .int (0 + (j : Nat) * 1)]) trivial (L := List.range l.length) (acc := []) (by simp; omega) (fun j hj => by
        show Got _ _
        simp_arith []
        try exact fun _ => trivial)
      have lc := lc none
      rw [List.nil_append, List.filter_eq_self.mpr (by simp), rgprs, ← hW] at lc
      have rg : List.map (fun j : Nat => D.int (0 + (j : Nat) * 1)) (List.range l.length) = rgL 0 1 l.length := rfl
      rw [rg] at lc
      have lc' : lcL (gN 5) tYe (eTup (aCons (eVar 2) (aCons (eVar 5) aNil))) tt [some (.ref b), some (.ref A.length), some (.int i), some x.d, o4, none] (rgL 0 1 (((l.length : Nat) : Int)).toNat) [] C = .ok (W.map prD) C := by
        rw [show ((l.length : Nat) : Int).toNat = l.length by omega]; exact lc
      obtain ⟨C1, hC1⟩ : ∃ C1, C1 = C ++ [O.lst (W.map prD)] := ⟨_, rfl⟩
      have fC1 : Fr [] C C1 := by rw [hC1]; exact .push
      have g1 : C1[C.length]? = some (.lst (W.map prD)) := by rw [hC1]; simp
      obtain ⟨C2, hC2⟩ : ∃ C2, C2 = C1 ++ [O.lst []] := ⟨_, rfl⟩
      have fC2 : Fr [] C1 C2 := by rw [hC2]; exact .push
      have l1 : C1.length = C.length + 1 := by rw [hC1]; simp
      have g21 := fC2.get g1 (by simp)
      have g2 : C2[C.length + 1]? = some (.lst []) := by rw [hC2, ← l1]; simp
      have d2 := fC2.get (fC1.get h1 (by simp)) (by simp)
      have d1 := fC1.get h1 (by simp)
      have lC := lt_of_get h1
      have tkx : ∀ B, F_talk_of [x.d] B = .ok x.k.d B := fun _ => talk_of_ok
      -- what stood there
      obtain ⟨r0, hr0, hg0⟩ : ∃ r0, (nget ld x.k.k).getD (.ref (C.length + 1)) = .ref r0 ∧ IsRow C2 r0 (wps 0 (L.take i) x.k) := by
        have := h4 x.k
        rw [h3]
        cases q : f x.k with
        | none => rw [q] at this; exact ⟨_, rfl, by unfold IsRow; rw [this]; exact g2⟩
        | some v =>
          rw [q] at this
          obtain ⟨r, rfl, _, hr⟩ := this
          exact ⟨r, rfl, fC2.get (fC1.get hr (by simp)) (by simp)⟩
      obtain ⟨C3, hC3⟩ : ∃ C3, C3 = C2 ++ [O.lst ((wps 0 (L.take i) x.k ++ W).map prD)] := ⟨_, rfl⟩
      have fC3 : Fr [] C2 C3 := by rw [hC3]; exact .push
      have l2 : C2.length = C.length + 2 := by rw [hC2]; simp [l1]
      have g3 : C3[C.length + 2]? = some (.lst ((wps 0 (L.take i) x.k ++ W).map prD)) := by rw [hC3, ← l2]; simp
      have d3 := fC3.get d2 (by simp)
      have wl : (wps 0 (L.take i) x.k).length ≤ 1000000 := by
        rw [wps_len]
        have := byW_len (P := L.take i) (k := x.k) fun y hy => h.x y (List.mem_of_mem_take hy)
        rw [lt] at this; omega
      have lW : W.length ≤ 1000 := by rw [hW, List.length_map, List.length_range]; omega
      have ad : oAdd (.ref r0) (.ref C.length) C2 = .ok (.ref (C.length + 2)) C3 := by
        rw [oAdd_l hg0 g21 (by rw [List.length_map, List.length_map]; omega), ← l2, hC3, List.map_append]
      obtain ⟨C4, hC4⟩ : ∃ C4, C4 = C3.set A.length (.nd (nput ld x.k.k (.ref (C.length + 2)))) := ⟨_, rfl⟩
      have l3 : C3.length = C.length + 3 := by rw [hC3]; simp [l2]
      have fC4 : Fr [A.length] C3 C4 := by rw [hC4]; exact Fr.set (by simp)
      have f03 : Fr [] C C3 := (fC1.trans fC2).trans fC3
      simp_arith [line_at0, line_at5, e, Ev.w, Ev.m, lc', ← hC1, tkx, d1, ← hC2, l1, d2, keyN_tk, hr0, ad, d3, z8y ld', ← hC4]
      refine ⟨_, _, _, _, rfl, ?_, ((fC.trans f03).trans' fC4 (by intro q hq; rw [List.mem_singleton] at hq; right; omega))⟩
      refine ⟨_, hC4 ▸ (NdI.put (by omega) h2 h3), fun k => ?_⟩
      rw [tk, wps_snoc]
      have we : wrE k x = if x.k = k then l else [] := by unfold wrE; rw [e]
      rw [we, lt, Nat.zero_add]
      by_cases c : x.k = k
      · simp only [if_pos c]
        refine ⟨C.length + 2, rfl, by rw [hC4, List.length_set]; omega, ?_⟩
        have : IsRow C4 (C.length + 2) (wps 0 (L.take i) x.k ++ W) := fC4.get g3 (by simp; omega)
        rw [c, hW] at this
        exact this
      · simp only [if_neg c]
        have := h4 k
        cases q : f k with
        | none => rw [q] at this; simpa using this
        | some v =>
          rw [q] at this
          obtain ⟨r, rfl, hM, hr⟩ := this
          refine ⟨r, rfl, by rw [hC4, List.length_set]; omega, ?_⟩
          have hr3 : IsRow C3 r (wps 0 (L.take i) k) := f03.get hr (by simp)
          have : r ≠ A.length := fun z => by
            subst z
            unfold IsRow at hr3
            rw [d3] at hr3; cases hr3
          have h9 : IsRow C4 r (wps 0 (L.take i) k) := fC4.get hr3 (by simpa using this)
          rw [show ((List.range ([] : List Int).length).map fun j => (i, j)) = [] from rfl, List.append_nil]
          exact h9
    | _ =>
      simp_arith [line_at0, e, Ev.w]
      exact ⟨_, _, _, _, rfl, other fun k => by unfold wrE; rw [e], fC⟩
  · rintro _ C ⟨o2, o3, o4, o5, rfl, hw, fC⟩
    rw [enumL_len, List.length_map, List.take_length] at hw
    simp_arith []
    exact ⟨_, rfl, Nat.le_refl _, hw, fC⟩

def srcs (L : List Ln) : List (NestedKey × D) := (opsOf L).map fun y => (y.k.k, (ptn y.k (opv y)).d)
theorem nget_nputs {k : Tk} : ∀ {N : List Ln} {acc : List (NestedKey × D)}, nget (nputs acc (N.map fun y => (y.k.k, (ptn y.k (opv y)).d))) k.k = match (N.filter fun y => decide (y.k = k)).getLast? with
    | some y => some (ptn y.k (opv y)).d
    | none => nget acc k.k
  | [], acc => rfl
  | y :: N, acc => by
    rw [List.map_cons, nputs_cons, nget_nputs (N := N), List.filter_cons]
    by_cases c : y.k = k
    · rw [decide_eq_true c, if_pos rfl, List.getLast?_cons]
      cases q : (N.filter fun y => decide (y.k = k)).getLast? with
      | none =>
        simp only [Option.getD_none]
        rw [nget_put, if_pos (by rw [c])]
      | some z => simp
    · rw [decide_eq_false c, if_neg (by simp)]
      cases q : (N.filter fun y => decide (y.k = k)).getLast? with
      | none => simp only; rw [nget_put, if_neg (fun e => c (Tk.k_inj.mp e))]
      | some z => rfl
theorem own_app {P R : List Ln} {k : Tk} : own (P ++ R) k = (own P k).or (own R k) := by
  unfold own; rw [List.findSome?_append]
theorem src_get {L : List Ln} {k : Tk} {o : Int} (h1 : OneOp L) (ho : own L k = some o) : nget (nputs [] (srcs L)) k.k = some (ptn k o).d := by
  unfold srcs
  rw [nget_nputs]
  rw [own_eq] at ho
  have l := h1 k
  cases q : (opsOf L).filter fun y => decide (y.k = k) with
  | nil => rw [q] at ho; cases ho
  | cons y N =>
    rw [q] at ho l
    have : N = [] := by
      rw [List.length_cons] at l
      exact List.length_eq_zero_iff.mp (by omega)
    subst this
    have hy : y.k = k := by
      have := List.mem_filter.mp (by rw [q]; exact List.mem_cons_self : y ∈ (opsOf L).filter fun y => decide (y.k = k))
      simpa using this.2
    simp only [List.head?_cons, Option.map_some, Option.some.injEq] at ho
    simp only [List.getLast?_singleton]
    rw [hy, ho]
theorem pairsN_srcs {N : List Ln} : pairsN (N.map fun y => D.tup [y.k.d, (ptn y.k (opv y)).d]) = some (N.map fun y => (y.k.k, (ptn y.k (opv y)).d)) := by
  induction N with
  | nil => rfl
  | cons y N ih =>
    rw [List.map_cons, List.map_cons, pairsN, ih, keyN_tk]
theorem papL_len : ∀ {r P : List Ln}, (papL P r).length ≤ r.length
  | [], _ => Nat.le_refl _
  | x :: r, P => by
    rw [papL, List.length_append, List.length_cons]
    have := papL_len (r := r) (P := P ++ [x])
    split
    · simp; omega
    · simp; omega
/-- new things on the heap -/
structure Fresh (A : Hs) (p : Nat) (rs : List Nat) : Prop where
  hp : A.length ≤ p
  hr : ∀ r ∈ rs, A.length ≤ r
  hn : rs.Nodup
  hm : p ∉ rs
theorem paper_ok {A : Hs} {b : Nat} {L : List Ln} (hb : A[b]? = some (.lst (L.map Ln.d))) (h : BkOk L) : Rk (F_paper_of [.ref b] A) fun v A1 => (match fwr [] L with
    | some _ => v = .non
    | none => ∃ p rs, v = .ref p ∧ IsPp A1 p rs (papL [] L) ∧ Fresh A p rs) ∧ Fr [] A A1 := by
  obtain ⟨_, A1, e1, rfl, f1⟩ := (judged_ok hb h).ex
  have hb1 := f1.get hb (by simp)
  cases hw : fwr [] L with
  | some n =>
    rw [hw] at e1
    have m0 : mN (some n) = .int (n : Nat) := rfl
    have ni : ∀ B, oIsNot (.int (n : Nat)) .non B = .ok (.bl true) B := fun _ => rfl
    unfold F_paper_of
    simp_arith [e1, m0, ni]
    exact f1
  | none =>
    rw [hw] at e1
    have m0 : mN none = .non := rfl
    have nn : ∀ B, oIsNot .non .non B = .ok (.bl false) B := fun _ => rfl
    have ar := fwr_none hw
    have one := allRight_one (P := []) (fun k => by simp [opsOf]) ar
    rw [List.nil_append] at one
    have hl := h.l
    obtain ⟨dw, A2, e2, hdw, hW, f2⟩ := places_ok hb1 h
    have hb2 := f2.get hb1 (by simp)
    have lc := fun (o3 : Option D) => lc_of (g := gN 3) (t := tOf (eOp oEq (eOp oIx (eVar 3) (eC (.int 0))) (eC (dS "opened")))) (a := eTup (aCons (eCall0 F_talk_of (aCons (eVar 3) aNil)) (aCons (eCall0 F_partner_of (aCons (eCall0 F_talk_of (aCons (eVar 3) aNil)) (aCons (eOp oIx (eVar 3) (eC (.int 5))) aNil))) aNil))) (gd := fun A' => A'[b]? = some (.lst (L.map Ln.d))) (env := [some (.ref b), some (.ref dw), none, none, none, none, none, none]) (A := A2) Ln.d isOp (fun y => D.tup [y.k.d, (ptn y.k (opv y)).d]) hb2 (L := L) (acc := []) (by simp; omega) (fun y hy => by
      have tkx : ∀ B, F_talk_of [y.d] B = .ok y.k.d B := fun _ => talk_of_ok
      show Got _ _
      cases e : y.e with
      | op o =>
        have pt : ∀ B, F_partner_of [y.k.d, .int o] B = .ok (ptn y.k o).d B := fun _ => partner_of_ok
        have io : isOp y = true := by unfold isOp; rw [e]
        have ov : opv y = o := by unfold opv; rw [e]
        simp_arith [line_at0, wd_op, io, tkx, line_at5, e, Ev.w, Ev.m, pt, ov]
        try exact fun _ => trivial
      | _ =>
        have io : isOp y = false := by unfold isOp; rw [e]
        simp_arith [line_at0, io, e, Ev.w]
        try exact fun z => (by cases z))
    have lc := lc none
    rw [List.nil_append] at lc
    have lo : (opsOf L).length ≤ 1000 := Nat.le_trans (List.length_filter_le _ _) hl
    have lc' : lcL (gN 3) (tOf (eOp oEq (eOp oIx (eVar 3) (eC (.int 0))) (eC (dS "opened")))) (eTup (aCons (eCall0 F_talk_of (aCons (eVar 3) aNil)) (aCons (eCall0 F_partner_of (aCons (eCall0 F_talk_of (aCons (eVar 3) aNil)) (aCons (eOp oIx (eVar 3) (eC (.int 5))) aNil))) aNil))) (fun A' => A'[b]? = some (.lst (L.map Ln.d))) [some (.ref b), some (.ref dw), none, none, none, none, none, none] (L.map Ln.d) [] A2 = .ok ((opsOf L).map fun y => D.tup [y.k.d, (ptn y.k (opv y)).d]) A2 := lc
    obtain ⟨T, hT⟩ : ∃ T, T = (opsOf L).map fun y => D.tup [y.k.d, (ptn y.k (opv y)).d] := ⟨_, rfl⟩
    have pT : pairsN T = some (srcs L) := by rw [hT]; exact pairsN_srcs
    have lT : T.length ≤ 1000 := by rw [hT, List.length_map]; exact lo
    rw [← hT] at lc'
    obtain ⟨A3, hA3⟩ : ∃ A3, A3 = A2 ++ [O.lst T] := ⟨_, rfl⟩
    obtain ⟨A4, hA4⟩ : ∃ A4, A4 = A3 ++ [O.nd (nputs [] (srcs L))] := ⟨_, rfl⟩
    obtain ⟨A5, hA5⟩ : ∃ A5, A5 = A4 ++ [O.nd []] := ⟨_, rfl⟩
    obtain ⟨A6, hA6⟩ : ∃ A6, A6 = A5 ++ [O.lst []] := ⟨_, rfl⟩
    have f3 : Fr [] A2 A3 := by rw [hA3]; exact .push
    have f4 : Fr [] A3 A4 := by rw [hA4]; exact .push
    have f5 : Fr [] A4 A5 := by rw [hA5]; exact .push
    have f6 : Fr [] A5 A6 := by rw [hA6]; exact .push
    have l3 : A3.length = A2.length + 1 := by rw [hA3]; simp
    have l4 : A4.length = A2.length + 2 := by rw [hA4]; simp [l3]
    have l5 : A5.length = A2.length + 3 := by rw [hA5]; simp [l4]
    have l6 : A6.length = A2.length + 4 := by rw [hA6]; simp [l5]
    have g3 : A3[A2.length]? = some (.lst T) := by rw [hA3]; simp
    have g4 : A4[A2.length + 1]? = some (.nd (nputs [] (srcs L))) := by rw [hA4, ← l3]; simp
    have g5 : A5[A2.length + 2]? = some (.nd []) := by rw [hA5, ← l4]; simp
    have g6 : A6[A2.length + 3]? = some (.lst []) := by rw [hA6, ← l5]; simp
    have f26 : Fr [] A2 A6 := (f3.trans f4).trans (f5.trans f6)
    have hb6 := f26.get hb2 (by simp)
    have W6 := hW.frm f26 (by simp) (by simp)
    have s6 := (f5.trans f6).get g4 (by simp)
    have h6 := f6.get g5 (by simp)
    have f16 := (f1.trans f2).trans f26
    have n12 := f1.le
    have n2 := f2.le
    have od := odn_s (A := A3) pT (by omega)
    obtain ⟨lw0, hlw0, _⟩ := W6.len
    obtain ⟨lw1, hlw1, _⟩ := hW.len
    have ldw := lt_of_get hlw1
    unfold F_paper_of
    simp_arith [e1, m0, nn, e2, hb2, lc', ← hA3, g3, od, ← hA4, l3, ← hA5, l4, ← hA6, l5, hb6]
    refine for_go (R := fun rs => Rk (finR (seqR rs _)) _) (fun i e C => ∃ (rs : List Nat) (o3 o6 o7 : Option D), e = [some (.ref b), some (.ref dw), some (.ref (A2.length + 1)), o3, some (.ref (A2.length + 2)), some (.ref (A2.length + 3)), o6, o7] ∧ WdI C dw L.length L A2.length ∧ C[A2.length + 1]? = some (.nd (nputs [] (srcs L))) ∧ (∃ g, NdI C (A2.length + 2) i g ∧ ∀ k, (g k).getD (.int 0) = .int ((byR (L.take i) k).length : Nat)) ∧ IsPp C (A2.length + 3) rs (papL [] (L.take i)) ∧ (∀ r ∈ rs, A2.length + 4 ≤ r ∧ r < C.length) ∧ (rs.Nodup ∧ A2.length + 4 ≤ C.length) ∧ Fr [] A2 C) ⟨[], _, _, _, rfl, W6, s6, ⟨fun _ => none, ⟨[], h6, Nat.zero_le _, fun _ => rfl⟩, fun _ => rfl⟩, ⟨g6, rfl, fun i r w h1 h2 => (by simp at h1)⟩, by simp, ⟨by simp, by omega⟩, f26⟩ (fun i e C _ h => by obtain ⟨_, _, _, _, _, _, _, _, _, _, _, h⟩ := h; exact h.get hb2 (by simp)) ?_ ?_
    · rintro i _ C d hd ⟨rs, o3, o6, o7, rfl, cW, cS, ⟨g, hg, hgk⟩, cP, hrs, ⟨hnd, hlC⟩, fC⟩
      rw [List.getElem?_map] at hd
      obtain ⟨x, hx, rfl⟩ := Option.map_eq_some_iff.mp hd
      have hi : i < L.length := (List.getElem?_eq_some_iff.mp hx).1
      have tk : L.take (i + 1) = L.take i ++ [x] := by rw [List.take_succ, hx]; rfl
      have rt := allRight_at ar hx
      rw [List.nil_append] at rt
      have tkx : ∀ B, F_talk_of [x.d] B = .ok x.k.d B := fun _ => talk_of_ok
      have other : isRd x = false → (∀ k, rdE k x = []) → (∃ g, NdI C (A2.length + 2) (i + 1) g ∧ ∀ k, (g k).getD (.int 0) = .int ((byR (L.take (i + 1)) k).length : Nat)) ∧ papL [] (L.take (i + 1)) = papL [] (L.take i) := fun e1 e2 => by
        refine ⟨⟨g, hg.more (by omega), fun k => ?_⟩, ?_⟩
        · rw [tk, byR_snoc, e2, List.append_nil]; exact hgk k
        · rw [tk, papL_snoc, e1]; simp
      show Got _ _
      cases e : x.e with
      | rd l =>
        have hxe := (h.x x (List.mem_of_getElem? hx)).e
        rw [e] at hxe
        have ll : l.length ≤ 1000 := hxe.2.2
        obtain ⟨o, ho⟩ : ∃ o, own (L.take i) x.k = some o := by
          unfold rightP at rt
          rw [e] at rt
          cases q : own (L.take i) x.k with
          | none => rw [q] at rt; cases rt
          | some o => exact ⟨o, rfl⟩
        have hoL : own L x.k = some o := by
          have : L = L.take i ++ L.drop i := (List.take_append_drop i L).symm
          rw [this, own_app, ho]; rfl
        have sg := src_get one hoL
        have row := row_eq rt hx e ho
        obtain ⟨lh, h1, h2, h3⟩ := hg
        have hk : (nget lh x.k.k).getD (.int 0) = .int ((byR (L.take i) x.k).length : Nat) := by rw [h3]; exact hgk x.k
        have lh' : lh.length < 16000000 := by omega
        obtain ⟨N, hN⟩ : ∃ N : Nat, N = (byR (L.take i) x.k).length := ⟨_, rfl⟩
        rw [← hN] at hk row
        obtain ⟨C1, hC1⟩ : ∃ C1, C1 = C.set (A2.length + 2) (.nd (nput lh x.k.k (.int ((N : Int) + (l.length : Nat))))) := ⟨_, rfl⟩
        have fC1 : Fr [A2.length + 2] C C1 := by rw [hC1]; exact Fr.set (by simp)
        have nN : NdI C1 (A2.length + 2) (i + 1) fun q => if x.k = q then some (.int ((N : Int) + (l.length : Nat))) else g q := hC1 ▸ NdI.put (lt_of_get h1) h2 h3
        have hc1 : C1[A2.length + 2]? = some (.nd (nput lh x.k.k (.int ((N : Int) + (l.length : Nat))))) := by rw [hC1]; exact zaf (lt_of_get h1)
        have ngc : nget (nput lh x.k.k (.int ((N : Int) + (l.length : Nat)))) x.k.k = some (.int ((N : Int) + (l.length : Nat))) := by rw [nget_put, if_pos rfl]
        have W1 := cW.frm fC1 (by simp; omega) (by simp)
        have S1 := fC1.get cS (by simp)
        obtain ⟨lwC, hlwC, _⟩ := W1.len
        obtain ⟨C2, hC2⟩ : ∃ C2, C2 = C1 ++ [O.lst []] := ⟨_, rfl⟩
        have fC2 : Fr [] C1 C2 := by rw [hC2]; exact .push
        have lC1 : C1.length = C.length := by rw [hC1]; simp
        have g2 : C2[C.length]? = some (.lst []) := by rw [hC2, ← lC1]; simp
        have W2 := W1.frm fC2 (by simp) (by simp)
        have S2 := fC2.get S1 (by simp)
        have hc2 := fC2.get hc1 (by simp)
        obtain ⟨fw, ⟨lw, w1, w2, w3⟩, w4⟩ := W2
        have wlwC : lwC = lw := by
          have := fC2.get hlwC (by simp)
          rw [w1] at this; cases this; rfl
        subst wlwC
        obtain ⟨r0, hr0, hg0⟩ : ∃ r0, (nget lwC (ptn x.k o).k).getD (.ref C.length) = .ref r0 ∧ IsRow C2 r0 (wps 0 L (ptn x.k o)) := by
          have := w4 (ptn x.k o)
          rw [w3]
          cases q : fw (ptn x.k o) with
          | none => rw [q] at this; exact ⟨_, rfl, by unfold IsRow; rw [this]; exact g2⟩
          | some v =>
            rw [q] at this
            obtain ⟨r, rfl, _, hr⟩ := this
            exact ⟨r, rfl, hr⟩
        have hg0' : C2[r0]? = some (.lst ((wps 0 L (ptn x.k o)).map prD)) := hg0
        have cut : (List.drop N ((wps 0 L (ptn x.k o)).map prD)).take l.length = (rowL (L.take i) x).map prD := by
          rw [← List.map_drop, ← List.map_take, row]
        have cut2 : List.take (((N : Int) + (l.length : Nat)).toNat - (N : Int).toNat) (List.drop (N : Int).toNat ((wps 0 L (ptn x.k o)).map prD)) = (rowL (L.take i) x).map prD := by
          rw [show (N : Int).toNat = N by omega, show ((N : Int) + (l.length : Nat)).toNat - N = l.length by omega, cut]
        obtain ⟨C3, hC3⟩ : ∃ C3, C3 = C2 ++ [O.lst ((rowL (L.take i) x).map prD)] := ⟨_, rfl⟩
        have lC2 : C2.length = C.length + 1 := by rw [hC2]; simp [lC1]
        have fC3 : Fr [] C2 C3 := by rw [hC3]; exact .push
        have g3 : C3[C.length + 1]? = some (.lst ((rowL (L.take i) x).map prD)) := by rw [hC3, ← lC2]; simp
        have P1 := cP.frm fC1 (by simp) (fun r hr => by have := hrs r hr; simp; omega)
        have P3 := (P1.frm fC2 (by simp) (by simp)).frm fC3 (by simp) (by simp)
        have po3 := P3.o
        have po1 := P1.o
        have lrs : rs.length < 16000000 := by
          have h1 := P3.l
          have h2 := papL_len (P := []) (r := L.take i)
          rw [List.length_take] at h2
          omega
        obtain ⟨C4, hC4⟩ : ∃ C4, C4 = C3.set (A2.length + 3) (.lst (rs.map D.ref ++ [.ref (C.length + 1)])) := ⟨_, rfl⟩
        have fC4 : Fr [A2.length + 3] C3 C4 := by rw [hC4]; exact Fr.set (by simp)
        have lC3 : C3.length = C.length + 2 := by rw [hC3]; simp [lC2]
        have lo3 := lt_of_get po3
        have bC1 : C1[b]? = some (.lst (L.map Ln.d)) := fC1.get (fC.get hb2 (by simp)) (by have := lt_of_get hb2; simp; omega)
        have f23 : Fr [] C1 C3 := fC2.trans fC3
        have W3 : WdI C3 dw L.length L A2.length := (W1.frm fC2 (by simp) (by simp)).frm fC3 (by simp) (by simp)
        have fr14 : Fr [A2.length + 2, A2.length + 3] C C4 := (fC1.mono (by simp)).trans ((f23.mono (by simp)).trans (fC4.mono (by simp)))
        have n2C := fC.le
        simp_arith [line_at0, e, Ev.w, Ev.m, tkx, h1, keyN_tk, hk, line_at5, z8y lh', ← hC1, hlwC, S1, sg, ← hC2, lC1, w1, hr0, hc1, hc2, ngc, po1, hg0', cut2, ← hC3, lC2, po3, ← hC4]
        refine ⟨rs ++ [C.length + 1], _, _, _, rfl, W3.frm fC4 (by simp; omega) (by simp), (f23.trans (Fr.refl)).get S1 (by simp) |> fun z => fC4.get z (by simp), ⟨_, (nN.frame f23 (by simp)).frame fC4 (by simp), fun k => ?_⟩, ?_, fun r hr => ?_, ?_, ?_⟩
        · rw [tk, byR_snoc]
          unfold rdE
          rw [e]
          simp only
          by_cases c : x.k = k
          · rw [if_pos c, if_pos c, List.length_append, ← c, ← hN]
            show D.int _ = D.int _
            congr 1 <;> omega
          · rw [if_neg c, if_neg c, List.append_nil]; exact hgk k
        · have pl : papL [] (L.take (i + 1)) = papL [] (L.take i) ++ [rowL (L.take i) x] := by
            rw [tk, papL_snoc]
            have : isRd x = true := by unfold isRd; rw [e]
            rw [this, if_pos rfl, List.nil_append]
          rw [pl]
          refine ⟨by rw [hC4, zaf lo3, List.map_append]; rfl, by rw [List.length_append, List.length_append, P3.l]; rfl, fun j r w z1 z2 => ?_⟩
          by_cases c : j < rs.length
          · rw [List.getElem?_append_left c] at z1
            rw [List.getElem?_append_left (by rw [← P3.l]; exact c)] at z2
            have q := hrs r (List.mem_of_getElem? z1)
            exact fC4.get (P3.r j r w z1 z2) (by simp; omega)
          · have c2 : j = rs.length := by
              have := (List.getElem?_eq_some_iff.mp z1).1
              simp at this; omega
            subst c2
            rw [List.getElem?_append_right (Nat.le_refl _)] at z1
            rw [P3.l, List.getElem?_append_right (Nat.le_refl _)] at z2
            simp at z1 z2
            subst z1 z2
            exact fC4.get g3 (by simp; omega)
        · have l4' : C4.length = C.length + 2 := by rw [hC4]; simp [lC3]
          rcases List.mem_append.mp hr with q | q
          · have := hrs r q; omega
          · rw [List.mem_singleton] at q; omega
        · refine ⟨?_, by rw [hC4]; simp [lC3]; omega⟩
          rw [List.nodup_append]
          refine ⟨hnd, by simp, fun a ha c hc z => ?_⟩
          rw [List.mem_singleton] at hc
          have := hrs a ha
          omega
        · exact fC.trans' fr14 (by intro q hq; simp only [List.mem_cons, List.not_mem_nil, or_false] at hq; right; omega)
      | _ =>
        simp_arith [line_at0, e, Ev.w]
        obtain ⟨k1, k2⟩ := other (by unfold isRd; rw [e]) (fun k => by unfold rdE; rw [e])
        exact ⟨rs, _, _, _, rfl, cW, cS, k1, by rw [k2]; exact cP, hrs, ⟨hnd, hlC⟩, fC⟩
    · rintro _ C ⟨rs, o3, o6, o7, rfl, cW, cS, _, cP, hrs, ⟨hnd, hlC⟩, fC⟩
      rw [List.length_map, List.take_length] at cP
      simp_arith []
      refine ⟨⟨A2.length + 3, rs, rfl, cP, by omega, fun r hr => by have := hrs r hr; omega, hnd, fun hm => by have := hrs _ hm; omega⟩, (f1.trans f2).trans fC⟩

noncomputable def lpI : S := (sFor (wOf wkEA (eSl oSl (eVar 0) oNo (oSo (eVar 2)))) (gT [(gN 8), (gN 5)]) (sIf (tAn (tOf (eOp oEq (eOp oIx (eVar 5) (eC (.int 0))) (eC (dS "wrote")))) (tOf (eOp oEq (eSl oSl (eVar 5) (oSo (eC (.int 2))) (oSo (eC (.int 5)))) (eVar 6)))) (sSet 7 (eOp oAdd (eVar 7) (eLc (wAs rg1 (aCons (eCB (c1 oLen) (aCons (eOp oIx (eVar 5) (eC (.int 5))) aNil)) aNil)) (gN 9) tYe (eTup (aCons (eVar 8) (aCons (eVar 9) aNil))) [9]))) sNx))
theorem lpap_eq : F_l_paper = mkFn 1 11 (sSeq (sSet 1 (eLst aNil)) (sSeq (sFor (wOf wkEA (eVar 0)) (gT [(gN 2), (gN 3)]) (sSeq (sIf (tOf (eOp oNe (eOp oIx (eVar 3) (eC (.int 0))) (eC (dS "read")))) sCt sNx) (sSeq (sSet 4 (eOp oIx (eLc (wSeq (eSl oSl (eVar 0) oNo (oSo (eVar 2)))) (gN 5) (tAn (tOf (eOp oEq (eOp oIx (eVar 5) (eC (.int 0))) (eC (dS "opened")))) (tOf (eOp oEq (eSl oSl (eVar 5) (oSo (eC (.int 2))) (oSo (eC (.int 5)))) (eSl oSl (eVar 3) (oSo (eC (.int 2))) (oSo (eC (.int 5))))))) (eVar 5) [5]) (eC (.int 0)))) (sSeq (sSet 6 (eSl oSl (eCall F_l_partner (aCons (eVar 4) aNil)) oNo (oSo (eC (.int 3))))) (sSeq (sSet 7 (eLst aNil)) (sSeq lpI (sSeq (sSet 10 (eCB (c1 oLen) (aCons (eCall F_l_bytes (aCons (eSl oSl (eVar 0) oNo (oSo (eVar 2))) (aCons (eC (dS "read")) (aCons (eSl oSl (eVar 3) (oSo (eC (.int 2))) (oSo (eC (.int 5)))) aNil)))) aNil))) (sDrop (eBL oAppend (eVar 1) (aCons (eSl oSl (eVar 7) (oSo (eVar 10)) (oSo (eOp oAdd (eVar 10) (eCB (c1 oLen) (aCons (eOp oIx (eVar 3) (eC (.int 5))) aNil))))) aNil)))))))))) (sRet (eVar 1)))) := rfl
theorem lpI_ok {C : Hs} {b f n r0 : Nat} {P : List Ln} {q : Tk} {o3 o4 o5 o8 o9 o10 : Option D} {L : List Ln} (hb : C[b]? = some (.lst (L.map Ln.d))) (hP : P = L.take n) (hn : n < 16000000) (h : ∀ x ∈ P, LnOk x) (hl : P.length ≤ 1000) (hr : IsRow C r0 []) :
    Nx (lpI [some (.ref b), some (.ref f), some (.int n), o3, o4, o5, some q.d, some (.ref r0), o8, o9, o10] C) (fun e2 C2 => ∃ (r : Nat) (o5 o8 o9 : Option D), e2 = [some (.ref b), some (.ref f), some (.int n), o3, o4, o5, some q.d, some (.ref r), o8, o9, o10] ∧ IsRow C2 r (wps 0 P q) ∧ Fr [] C C2) := by
  obtain ⟨C0, hC0⟩ : ∃ C0, C0 = C ++ [O.lst (P.map Ln.d)] := ⟨_, rfl⟩
  have f0 : Fr [] C C0 := by rw [hC0]; exact .push
  have g0 : C0[C.length]? = some (.lst (P.map Ln.d)) := by rw [hC0]; simp
  have cut : List.take (n : Int).toNat (L.map Ln.d) = P.map Ln.d := by rw [show (n : Int).toNat = n by omega, ← List.map_take, hP]
  unfold lpI
  simp_arith [hb, cut, ← hC0, g0]
  refine for_go (R := fun rs => Nx rs _) (fun i e C2 => ∃ (r : Nat) (o5 o8 o9 : Option D), e = [some (.ref b), some (.ref f), some (.int n), o3, o4, o5, some q.d, some (.ref r), o8, o9, o10] ∧ IsRow C2 r (wps 0 (P.take i) q) ∧ Fr [] C0 C2) ⟨r0, _, _, _, rfl, f0.get hr (by simp), Fr.refl⟩ (fun i e C2 _ h => by obtain ⟨_, _, _, _, _, _, h⟩ := h; exact h.get g0 (by simp)) ?_ ?_
  · rintro i _ C2 d hd ⟨r, o5, o8, o9, rfl, hrow, fC⟩
    obtain ⟨x', q1, rfl⟩ := enumL_get hd
    rw [List.getElem?_map] at q1
    obtain ⟨x, hx, rfl⟩ := Option.map_eq_some_iff.mp q1
    have hi : i < P.length := (List.getElem?_eq_some_iff.mp hx).1
    have tk : P.take (i + 1) = P.take i ++ [x] := by rw [List.take_succ, hx]; rfl
    have lt : (P.take i).length = i := by rw [List.length_take]; omega
    have other : wrE q x = [] → IsRow C2 r (wps 0 (P.take (i + 1)) q) := fun e => by
      rw [tk, wps_snoc, e]; simpa using hrow
    show Got _ _
    cases e : x.e with
    | wr l =>
      by_cases c : x.k = q
      · have hxe := (h x (List.mem_of_getElem? hx)).e
        rw [e] at hxe
        have ll : l.length ≤ 1000 := hxe.2.2
        obtain ⟨W, hW⟩ : ∃ W, W = (List.range l.length).map fun j => (i, j) := ⟨_, rfl⟩
        have lc := fun (o9 : Option D) => lc_of (g := gN 9) (t := tYe) (a := eTup (aCons (eVar 8) (aCons (eVar 9) aNil))) (gd := tt) (env := [some (.ref b), some (.ref f), some (.int n), o3, o4, some x.d, some q.d, some (.ref r), some (.int i), none, o10]) (A := C2) (fun j : Nat => D.int (0 + (j : Nat) * 1)) (fun _ => true) (fun j : Nat => D.tup [.int (i : Nat), .int (0 + (j : Nat) * 1)]) trivial (L := List.range l.length) (acc := []) (by simp; omega) (fun j hj => by
          show Got _ _
          simp_arith []
          try exact fun _ => trivial)
        have lc := lc none
        rw [List.nil_append, List.filter_eq_self.mpr (by simp), rgprs, ← hW] at lc
        have rg : List.map (fun j : Nat => D.int (0 + (j : Nat) * 1)) (List.range l.length) = rgL 0 1 (((l.length : Nat) : Int)).toNat := by rw [show ((l.length : Nat) : Int).toNat = l.length by omega]; rfl
        rw [rg] at lc
        obtain ⟨C3, hC3⟩ : ∃ C3, C3 = C2 ++ [O.lst (W.map prD)] := ⟨_, rfl⟩
        have f3 : Fr [] C2 C3 := by rw [hC3]; exact .push
        have g3 : C3[C2.length]? = some (.lst (W.map prD)) := by rw [hC3]; simp
        have hrow3 : C3[r]? = some (.lst ((wps 0 (P.take i) q).map prD)) := f3.get hrow (by simp)
        have l3 : C3.length = C2.length + 1 := by rw [hC3]; simp
        obtain ⟨C4, hC4⟩ : ∃ C4, C4 = C3 ++ [O.lst ((wps 0 (P.take i) q ++ W).map prD)] := ⟨_, rfl⟩
        have f4 : Fr [] C3 C4 := by rw [hC4]; exact .push
        have g4 : C4[C2.length + 1]? = some (.lst ((wps 0 (P.take i) q ++ W).map prD)) := by rw [hC4, ← l3]; simp
        have wl : (wps 0 (P.take i) q).length ≤ 1000000 := by
          rw [wps_len]
          have := byW_len (P := P.take i) (k := q) fun y hy => h y (List.mem_of_mem_take hy)
          rw [lt] at this; omega
        have lW : W.length ≤ 1000 := by rw [hW, List.length_map, List.length_range]; omega
        have ad : oAdd (.ref r) (.ref C2.length) C3 = .ok (.ref (C2.length + 1)) C4 := by
          rw [oAdd_l hrow3 g3 (by rw [List.length_map, List.length_map]; omega), ← l3, hC4, List.map_append]
        have as : ad_ C3 (some ((wps 0 (P.take i) q).map prD)) (some (W.map prD)) = .ok (.ref (C2.length + 1)) C4 := by
          rw [← ad, z7b, hrow3, g3]; rfl
        simp_arith [line_at0, line_25, oEq_tk, line_at5, e, Ev.w, Ev.m, c, lc, ← hC3, hrow3, g3, as]
        refine ⟨_, _, _, _, rfl, ?_, (fC.trans f3).trans f4⟩
        rw [tk, wps_snoc]
        have we : wrE q x = l := by unfold wrE; rw [e]; simp [c]
        rw [we, lt, Nat.zero_add, ← hW]
        exact g4
      · simp_arith [line_at0, line_25, oEq_tk, e, Ev.w, c]
        exact ⟨_, _, _, _, rfl, other (by unfold wrE; rw [e]; simp [c]), fC⟩
    | _ =>
      simp_arith [line_at0, e, Ev.w]
      exact ⟨_, _, _, _, rfl, other (by unfold wrE; rw [e]), fC⟩
  · rintro _ C2 ⟨r, o5, o8, o9, rfl, hrow, fC⟩
    rw [enumL_len, List.length_map, List.take_length] at hrow
    exact ⟨r, o5, o8, o9, rfl, hrow, f0.trans fC⟩
theorem lpaper_ok {A : Hs} {b : Nat} {L : List Ln} (hb : A[b]? = some (.lst (L.map Ln.d))) (h : BkOk L) (hw : fwr [] L = none) : Rk (F_l_paper [.ref b] A) fun v A1 => (∃ p rs, v = .ref p ∧ IsPp A1 p rs (papL [] L) ∧ Fresh A p rs) ∧ Fr [] A A1 := by
  have ar := fwr_none hw
  have hl := h.l
  have lb := lt_of_get hb
  obtain ⟨A0, hA0⟩ : ∃ A0, A0 = A ++ [O.lst []] := ⟨_, rfl⟩
  have f0 : Fr [] A A0 := by rw [hA0]; exact .push
  have hb0 := f0.get hb (by simp)
  have g0 : A0[A.length]? = some (.lst []) := by rw [hA0]; simp
  have l0 : A0.length = A.length + 1 := by rw [hA0]; simp
  rw [lpap_eq]
  simp_arith [← hA0, hb0]
  refine for_go (R := fun rs => Rk (finR (seqR rs _)) _) (fun i e C => ∃ (rs : List Nat) (o2 o3 o4 o5 o6 o7 o8 o9 o10 : Option D), e = [some (.ref b), some (.ref A.length), o2, o3, o4, o5, o6, o7, o8, o9, o10] ∧ IsPp C A.length rs (papL [] (L.take i)) ∧ (∀ r ∈ rs, A.length + 1 ≤ r ∧ r < C.length) ∧ rs.Nodup ∧ Fr [] A C ∧ A.length + 1 ≤ C.length) ⟨[], _, _, _, _, _, _, _, _, _, rfl, ⟨g0, rfl, fun i r w h1 h2 => (by simp at h1)⟩, by simp, by simp, f0, by omega⟩ (fun i e C _ h => by obtain ⟨_, _, _, _, _, _, _, _, _, _, _, _, _, _, h, _⟩ := h; exact h.get hb (by simp)) ?_ ?_
  · rintro i _ C d hd ⟨rs, o2, o3, o4, o5, o6, o7, o8, o9, o10, rfl, cP, hrs, hnd, fC, hlC⟩
    obtain ⟨x', q1, rfl⟩ := enumL_get hd
    rw [List.getElem?_map] at q1
    obtain ⟨x, hx, rfl⟩ := Option.map_eq_some_iff.mp q1
    have hi : i < L.length := (List.getElem?_eq_some_iff.mp hx).1
    have tk : L.take (i + 1) = L.take i ++ [x] := by rw [List.take_succ, hx]; rfl
    have rt := allRight_at ar hx
    rw [List.nil_append] at rt
    have other : isRd x = false → papL [] (L.take (i + 1)) = papL [] (L.take i) := fun e1 => by rw [tk, papL_snoc, e1]; simp
    have hbC := fC.get hb (by simp)
    show Got _ _
    cases e : x.e with
    | rd l =>
      have hxe := (h.x x (List.mem_of_getElem? hx)).e
      rw [e] at hxe
      have ll : l.length ≤ 1000 := hxe.2.2
      obtain ⟨P, hP⟩ : ∃ P, P = L.take i := ⟨_, rfl⟩
      have hPok : ∀ y ∈ P, LnOk y := fun y hy => h.x y (List.mem_of_mem_take (hP ▸ hy))
      have lP : P.length ≤ 1000 := by rw [hP, List.length_take]; omega
      obtain ⟨o, ho⟩ : ∃ o, own P x.k = some o := by
        rw [← hP] at rt
        unfold rightP at rt
        rw [e] at rt
        cases q : own P x.k with
        | none => rw [q] at rt; cases rt
        | some o => exact ⟨o, rfl⟩
      obtain ⟨N, hN⟩ : ∃ N, N = P.filter fun y => isOp y && decide (y.k = x.k) := ⟨_, rfl⟩
      have hN2 : N = (opsOf P).filter fun y => decide (y.k = x.k) := by
        rw [hN]; unfold opsOf; rw [List.filter_filter]
        congr 1; funext y; exact Bool.and_comm _ _
      rw [own_eq, ← hN2] at ho
      obtain ⟨y, N', hNy, hyo⟩ : ∃ y N', N = y :: N' ∧ opv y = o := by
        cases N with
        | nil => cases ho
        | cons y N' => exact ⟨y, N', rfl, by simpa using ho⟩
      have hy := (List.mem_filter.mp (by rw [← hN, hNy]; exact List.mem_cons_self : y ∈ P.filter fun y => isOp y && decide (y.k = x.k))).2
      simp only [Bool.and_eq_true, decide_eq_true_eq] at hy
      obtain ⟨hyop, hyk⟩ := hy
      obtain ⟨o', ho'⟩ : ∃ o', y.e = .op o' := by
        unfold isOp at hyop
        cases q : y.e with
        | op o => exact ⟨o, rfl⟩
        | _ => rw [q] at hyop; cases hyop
      have : o' = o := by unfold opv at hyo; rw [ho'] at hyo; exact hyo
      subst this
      have lC := lt_of_get cP.o
      -- the slice, the own opening
      obtain ⟨C1, hC1⟩ : ∃ C1, C1 = C ++ [O.lst (P.map Ln.d)] := ⟨_, rfl⟩
      have f1 : Fr [] C C1 := by rw [hC1]; exact .push
      have g1 : C1[C.length]? = some (.lst (P.map Ln.d)) := by rw [hC1]; simp
      have l1 : C1.length = C.length + 1 := by rw [hC1]; simp
      have cut : List.take (i : Int).toNat (L.map Ln.d) = P.map Ln.d := by rw [show (i : Int).toNat = i by omega, ← List.map_take, hP]
      have lc := fun (o5 : Option D) => lc_of (g := gN 5) (t := tAn (tOf (eOp oEq (eOp oIx (eVar 5) (eC (.int 0))) (eC (dS "opened")))) (tOf (eOp oEq (eSl oSl (eVar 5) (oSo (eC (.int 2))) (oSo (eC (.int 5)))) (eSl oSl (eVar 3) (oSo (eC (.int 2))) (oSo (eC (.int 5))))))) (a := eVar 5) (gd := fun A' => A'[C.length]? = some (.lst (P.map Ln.d))) (env := [some (.ref b), some (.ref A.length), some (.int i), some x.d, o4, none, o6, o7, o8, o9, o10]) (A := C1) Ln.d (fun y => isOp y && decide (y.k = x.k)) Ln.d g1 (L := P) (acc := []) (by simp; omega) (fun z hz => by
        show Got _ _
        cases io : isOp z with
        | true =>
          simp_arith [line_at0, wd_op, io, line_25, oEq_tk, Bool.true_and]
          exact fun _ => trivial
        | false =>
          simp_arith [line_at0, wd_op, io, Bool.false_and]
          try exact fun z => (by cases z))
      have lc := lc none
      rw [List.nil_append, ← hN, hNy] at lc
      obtain ⟨C2, hC2⟩ : ∃ C2, C2 = C1 ++ [O.lst (y.d :: N'.map Ln.d)] := ⟨_, rfl⟩
      have f2 : Fr [] C1 C2 := by rw [hC2]; exact .push
      have g2 : C2[C.length + 1]? = some (.lst (y.d :: N'.map Ln.d)) := by rw [hC2, ← l1]; simp
      have l2 : C2.length = C.length + 2 := by rw [hC2]; simp [l1]
      have p1 : ∀ C, F_l_partner [y.d] C = .ok (q4 (ptn x.k o') x.k.f) C := fun C => by rw [partner_ok ho', hyk]; rfl
      have q43 : ∀ C, oSl (q4 (ptn x.k o') x.k.f) none (some 3) C = .ok (ptn x.k o').d C := fun C => by
        unfold q4
        simp_arith []
        rfl
      obtain ⟨C3, hC3⟩ : ∃ C3, C3 = C2 ++ [O.lst []] := ⟨_, rfl⟩
      have f3 : Fr [] C2 C3 := by rw [hC3]; exact .push
      have g3 : IsRow C3 (C.length + 2) [] := by unfold IsRow; rw [hC3, ← l2]; simp
      have f03 := (f1.trans f2).trans f3
      have T := lpI_ok (C := C3) (b := b) (f := A.length) (n := i) (r0 := C.length + 2) (P := P) (q := ptn x.k o') (o3 := some x.d) (o4 := some y.d) (o5 := o5) (o8 := o8) (o9 := o9) (o10 := o10) (L := L) (f03.get hbC (by simp)) hP (by omega) hPok lP g3
      simp_arith [line_at0, e, Ev.w, hbC, cut, ← hC1, g1, lc, ← hC2, l1, g2, p1, q43, ← hC3, l2]
      refine T.call (fun r => Trn _ _ (seqR r _)) ?_
      rintro _ C4 ⟨r, o5', o8', o9', rfl, hrow, f4⟩
      have hrow' : C4[r]? = some (.lst ((wps 0 P (ptn x.k o')).map prD)) := hrow
      have hb4 := f4.get (f03.get hbC (by simp)) (by simp)
      obtain ⟨C5, hC5⟩ : ∃ C5, C5 = C4 ++ [O.lst (P.map Ln.d)] := ⟨_, rfl⟩
      have f5 : Fr [] C4 C5 := by rw [hC5]; exact .push
      have g5 : C5[C4.length]? = some (.lst (P.map Ln.d)) := by rw [hC5]; simp
      have r5 := bytes_rd (k := x.k) g5 hPok lP
      have hrow5 := f5.get hrow' (by simp)
      have f45 := f4.trans f5
      have cP5 := (cP.frm f03 (by simp) (by simp)).frm f45 (by simp) (by simp)
      have po5 := cP5.o
      obtain ⟨M, hM⟩ : ∃ M : Nat, M = (byR P x.k).length := ⟨_, rfl⟩
      have dl : ∀ B, oLen (dI (byR P x.k)) B = .ok (.int (M : Nat)) B := fun B => by rw [dI_len, hM]
      have rowE : (List.drop M (wps 0 P (ptn x.k o'))).take l.length = rowL P x := by
        unfold rowL
        have : own P x.k = some o' := by rw [own_eq, ← hN2, hNy]; simpa using hyo
        rw [e, this]
        simp only
        rw [hM]
      have cut2 : List.take (((M : Int) + (l.length : Nat)).toNat - (M : Int).toNat) (List.drop (M : Int).toNat ((wps 0 P (ptn x.k o')).map prD)) = (rowL P x).map prD := by
        rw [show (M : Int).toNat = M by omega, show ((M : Int) + (l.length : Nat)).toNat - M = l.length by omega, ← List.map_drop, ← List.map_take, rowE]
      obtain ⟨C6, hC6⟩ : ∃ C6, C6 = C5 ++ [O.lst ((rowL P x).map prD)] := ⟨_, rfl⟩
      have f6 : Fr [] C5 C6 := by rw [hC6]; exact .push
      have l5 : C5.length = C4.length + 1 := by rw [hC5]; simp
      have g6 : C6[C4.length + 1]? = some (.lst ((rowL P x).map prD)) := by rw [hC6, ← l5]; simp
      have cP6 := cP5.frm f6 (by simp) (by simp)
      have po6 := cP6.o
      have lrs : rs.length < 16000000 := by
        have h1 := cP6.l
        have h2 := papL_len (P := []) (r := L.take i)
        rw [List.length_take] at h2
        omega
      have lo6 := lt_of_get po6
      obtain ⟨C7, hC7⟩ : ∃ C7, C7 = C6.set A.length (.lst (rs.map D.ref ++ [.ref (C4.length + 1)])) := ⟨_, rfl⟩
      have f7 : Fr [A.length] C6 C7 := by rw [hC7]; exact Fr.set (by simp)
      have n04 := f03.le
      have n4 := f4.le
      have l6 : C6.length = C4.length + 2 := by rw [hC6]; simp [l5]
      simp_arith [hb4, cut, ← hC5, line_25, r5, dl, po5, line_at5, e, Ev.m, hrow5, cut2, ← hC6, l5, po6, ← hC7]
      refine ⟨rs ++ [C4.length + 1], _, _, _, _, _, _, _, _, _, rfl, ?_, fun r hr => ?_, ?_, ?_, by rw [hC7]; simp [l6]; omega⟩
      · have pl : papL [] (L.take (i + 1)) = papL [] (L.take i) ++ [rowL P x] := by
          rw [tk, papL_snoc]
          have : isRd x = true := by unfold isRd; rw [e]
          rw [this, if_pos rfl, List.nil_append, ← hP]
        rw [pl]
        refine ⟨by rw [hC7, zaf lo6, List.map_append]; rfl, by rw [List.length_append, List.length_append, cP6.l]; rfl, fun j r w z1 z2 => ?_⟩
        by_cases c : j < rs.length
        · rw [List.getElem?_append_left c] at z1
          rw [List.getElem?_append_left (by rw [← cP6.l]; exact c)] at z2
          have q := hrs r (List.mem_of_getElem? z1)
          exact f7.get (cP6.r j r w z1 z2) (by simp; omega)
        · have c2 : j = rs.length := by
            have := (List.getElem?_eq_some_iff.mp z1).1
            simp at this; omega
          subst c2
          rw [List.getElem?_append_right (Nat.le_refl _)] at z1
          rw [cP6.l, List.getElem?_append_right (Nat.le_refl _)] at z2
          simp at z1 z2
          subst z1 z2
          exact f7.get g6 (by simp; omega)
      · have l7 : C7.length = C4.length + 2 := by rw [hC7]; simp [l6]
        rcases List.mem_append.mp hr with q | q
        · have := hrs r q; omega
        · rw [List.mem_singleton] at q; omega
      · rw [List.nodup_append]
        refine ⟨hnd, by simp, fun a ha c hc z => ?_⟩
        rw [List.mem_singleton] at hc
        have := hrs a ha
        omega
      · exact ((fC.trans f03).trans (f45.trans f6)).trans' f7 (by intro q hq; rw [List.mem_singleton] at hq; right; omega)
    | _ =>
      simp_arith [line_at0, e, Ev.w]
      exact ⟨rs, _, _, _, _, _, _, _, _, _, rfl, by rw [other (by unfold isRd; rw [e])]; exact cP, hrs, hnd, fC, hlC⟩
  · rintro _ C ⟨rs, o2, o3, o4, o5, o6, o7, o8, o9, o10, rfl, cP, hrs, hnd, fC, hlC⟩
    rw [enumL_len, List.length_map, List.take_length] at cP
    simp_arith []
    exact ⟨⟨A.length, rs, rfl, cP, ⟨Nat.le_refl _, fun r hr => by have := hrs r hr; omega, hnd, fun hm => by have := hrs _ hm; omega⟩⟩, fC⟩

theorem all_trs {α : Type} {L : List α} : boolsOf (L.map fun _ => D.bl true) = some (L.map fun _ => true) := by
  have := z00 (L.map fun _ => true)
  rwa [List.map_map] at this
theorem is_pair_ok {p : Nat × Nat} {A : Hs} : ∃ A1, F_is_pair [prD p] A = .ok (.bl true) A1 ∧ Fr [] A A1 := by
  refine ⟨A ++ [.lst [.bl true, .bl true]], ?_, .push⟩
  have lc := lc_of (g := gN 1) (t := tYe) (a := eAnd (eCB (c2 (oIsi os_ xs_ tb_)) (aCons (eVar 1) (aCons (eC (.ty "int")) aNil))) (eNot (eCB (c2 (oIsi os_ xs_ tb_)) (aCons (eVar 1) (aCons (eC (.ty "bool")) aNil))))) (gd := tt) (env := [some (prD p), none]) (A := A) (fun n : Nat => D.int n) (fun _ => true) (fun _ => D.bl true) trivial (L := [p.1, p.2]) (acc := []) (by simp) (fun k hk => by
    show Got _ _
    simp_arith []
    try exact fun _ => trivial)
  have e : prD p = .tup [.int (p.1 : Nat), .int (p.2 : Nat)] := rfl
  rw [List.nil_append] at lc
  simp only [List.map_cons, List.map_nil, List.filter_cons, List.filter_nil, if_true] at lc
  have al : boolsOf [D.bl true, .bl true] = some [true, true] := rfl
  rw [e] at lc ⊢
  unfold F_is_pair
  simp_arith [lc, al]
  rfl
theorem is_formed_ok {A : Hs} {p : Nat} {rs : List Nat} {R : List (List (Nat × Nat))} (h : IsPp A p rs R) (hl : rs.length ≤ 1000) (hR : ∀ w ∈ R, w.length ≤ 1000000) : ∃ A1, F_is_formed [.ref p] A = .ok (.bl true) A1 ∧ Fr [] A A1 := by
  have ho := h.o
  have lp := lt_of_get ho
  have rw_ : ∀ r ∈ rs, ∃ w ∈ R, IsRow A r w := fun r hr => by
    obtain ⟨i, hi⟩ := List.getElem?_of_mem hr
    have li : i < R.length := by rw [← h.l]; exact (List.getElem?_eq_some_iff.mp hi).1
    exact ⟨R[i], List.getElem_mem li, h.r i r _ hi (List.getElem?_eq_getElem li)⟩
  have isl : ∀ {B : Hs} {r : Nat} {l : List D}, B[r]? = some (.lst l) → oIsi os_ xs_ tb_ (.ref r) (.ty "list") B = .ok (.bl true) B := fun {B r l} h => by
    unfold oIsi isiD kdOf
    simp only [h]
    rfl
  have i0 := isl ho
  have lc := lc_of (g := gN 1) (t := tYe) (a := eCB (c2 (oIsi os_ xs_ tb_)) (aCons (eVar 1) (aCons (eC (.ty "list")) aNil))) (gd := fun A' => A'[p]? = some (.lst (rs.map D.ref))) (env := [some (.ref p), none, none]) (A := A) D.ref (fun _ => true) (fun _ => D.bl true) ho (L := rs) (acc := []) (by simp; omega) (fun r hr => by
    obtain ⟨w, _, hw⟩ := rw_ r hr
    have := isl hw
    show Got _ _
    simp_arith [this]
    try exact fun _ => trivial)
  rw [List.nil_append, List.filter_eq_self.mpr (by simp)] at lc
  obtain ⟨A1, hA1⟩ : ∃ A1, A1 = A ++ [O.lst (rs.map fun _ => D.bl true)] := ⟨_, rfl⟩
  have f1 : Fr [] A A1 := by rw [hA1]; exact .push
  have ho1 := f1.get ho (by simp)
  obtain ⟨A2, e2, f2⟩ := lc_frs (g := gN 1) (t := tYe) (a := eCB (c1 oAll) (aCons (eLc (wSeq (eVar 1)) (gN 2) tYe (eCall0 F_is_pair (aCons (eVar 2) aNil)) [2]) aNil)) (gd := fun A' => A'[p]? = some (.lst (rs.map D.ref))) (env := [some (.ref p), none, none]) (A := A1) (ds := rs.map D.ref) (fun _ => .bl true) (by simp; omega) (fun B f => f.get ho1 (by simp)) (by
    intro d hd B fB
    obtain ⟨r, hr, rfl⟩ := List.mem_map.mp hd
    obtain ⟨w, hwR, hw⟩ := rw_ r hr
    have hwl := hR w hwR
    have hwB : B[r]? = some (.lst (w.map prD)) := fB.get (f1.get hw (by simp)) (by simp)
    obtain ⟨B1, e1, f1⟩ := lc_frs (g := gN 2) (t := tYe) (a := eCall0 F_is_pair (aCons (eVar 2) aNil)) (gd := fun A' => A'[r]? = some (.lst (w.map prD))) (env := [some (.ref p), some (.ref r), none]) (A := B) (ds := w.map prD) (fun _ => .bl true) (by simp; omega) (fun B f => f.get hwB (by simp)) (by
      intro d hd B fB
      obtain ⟨z, hz, rfl⟩ := List.mem_map.mp hd
      obtain ⟨B2, e3, f3⟩ := is_pair_ok (p := z) (A := B)
      show Got _ _
      simp_arith [e3]
      exact f3)
    have e5 : ((w.map prD).map fun _ => D.bl true) = w.map fun _ => D.bl true := by rw [List.map_map]; rfl
    rw [e5] at e1
    have e6 : (w.map fun _ => true).all id = true := by simp
    show Got _ _
    simp_arith [hwB, e1, all_trs, e6]
    exact Fr.then_push f1)
  have e5 : ((rs.map D.ref).map fun _ => D.bl true) = rs.map fun _ => D.bl true := by rw [List.map_map]; rfl
  rw [e5] at e2
  have e6 : (rs.map fun _ => true).all id = true := by simp
  refine ⟨A2 ++ [.lst (rs.map fun _ => D.bl true)], ?_, (f1.trans f2).then_push⟩
  have g1 : A1[A.length]? = some (.lst (rs.map fun _ => D.bl true)) := by rw [hA1]; simp
  unfold F_is_formed
  simp_arith [i0, ho, lc, all_trs, e6, ← hA1, g1, ho1, e2]
theorem papL_w {L : List Ln} (h : ∀ x ∈ L, LnOk x) : ∀ {P : List Ln}, ∀ w ∈ papL P L, w.length ≤ 1000 := by
  induction L with
  | nil => intro P w hw; cases hw
  | cons x r ih =>
    intro P w hw
    rw [papL] at hw
    rcases List.mem_append.mp hw with q | q
    · split at q
      · rw [List.mem_singleton] at q
        subst q
        unfold rowL
        have hx := (h x List.mem_cons_self).e
        cases e : x.e with
        | rd l =>
          rw [e] at hx
          cases own P x.k with
          | none => simp
          | some o => simp only [List.length_take]; have : l.length ≤ 1000 := hx.2.2; omega
        | _ => simp
      · cases q
    · exact ih (fun y hy => h y (List.mem_cons_of_mem _ hy)) w q
/-- shows, of a paper of pairs -/
theorem shows_ok {A : Hs} {b q : Nat} {L : List Ln} {ss : List Nat} {S : List (List (Nat × Nat))} (hb : A[b]? = some (.lst (L.map Ln.d))) (h : BkOk L) (hq : IsPp A q ss S) (hl : ss.length ≤ 1000) (hS : ∀ w ∈ S, w.length ≤ 1000000) :
    ∃ A1, F_shows [.ref b, .ref q] A = .ok (.bl (match fwr [] L with | some _ => false | none => decide (S = papL [] L))) A1 ∧ Fr [] A A1 := by
  obtain ⟨v, A1, e1, h1, f1⟩ := (paper_ok hb h).ex
  cases c : fwr [] L with
  | some n =>
    rw [c] at h1
    subst h1
    have nn : ∀ B, oIsNot .non .non B = .ok (.bl false) B := fun _ => rfl
    refine ⟨A1, ?_, f1⟩
    unfold F_shows
    simp_arith [e1, nn]
  | none =>
    rw [c] at h1
    obtain ⟨p, rs, rfl, hp, hf⟩ := h1
    have hq1 := hq.frm f1 (by simp) (by simp)
    obtain ⟨A2, e2, f2⟩ := is_formed_ok hq1 hl hS
    have hq2 := hq1.frm f2 (by simp) (by simp)
    have hp2 := hp.frm f2 (by simp) (by simp)
    have eq : oEq (.ref q) (.ref p) A2 = .ok (.bl (decide (S = papL [] L))) A2 := eqA_of (eqA_pp hq2 hp2)
    have nr : ∀ B, oIsNot (.ref p) .non B = .ok (.bl true) B := fun _ => rfl
    refine ⟨A2, ?_, f1.trans f2⟩
    unfold F_shows
    simp_arith [e1, nr, e2, eq]
/-! data that repr can show -/
structure SmP (W n : Nat) (p : PyData) : Prop where
  s : p.showable = true
  l : p.leavesShort 13 = true
  b : p.bulk ≤ W
  d : p.depth ≤ n
structure SmL (W n : Nat) (p : List PyData) : Prop where
  s : PyData.showableAll p = true
  l : PyData.leavesShortAll 13 p = true
  b : PyData.bulkAll p ≤ W
  d : PyData.depthAll p ≤ n
theorem SmP.mono {W n V m : Nat} {p : PyData} (h : SmP W n p) (k : W ≤ V) (j : n ≤ m) : SmP V m p := ⟨h.s, h.l, Nat.le_trans h.b k, Nat.le_trans h.d j⟩
theorem SmP.non : SmP 0 0 .none := ⟨rfl, rfl, Nat.le_refl _, Nat.le_refl _⟩
theorem SmP.bl {b : Bool} : SmP 0 0 (.bool b) := ⟨rfl, rfl, Nat.le_refl _, Nat.le_refl _⟩
theorem SmP.int {i : Int} (h : i.natAbs < 10 ^ 12) : SmP 0 0 (.int i) := by
  refine ⟨?_, ?_, Nat.le_refl _, Nat.le_refl _⟩
  · simp only [PyData.showable, decide_eq_true_eq]
    by_cases z : i.natAbs = 0
    · rw [z]; decide
    · have : i.natAbs.log2 < 40 := (Nat.log2_lt z).mpr (Nat.lt_of_lt_of_le h (by decide))
      omega
  · simp only [PyData.leavesShort, decide_eq_true_eq]
    exact PyData.shown_int_le h
theorem SmP.dS {s : String} (h : ((fS s).cps.toList.all fun c => decide (c < 16 ^ 8)) = true) (hl : (fS s).cps.size ≤ 20) : SmP 20 0 (.str (fS s)) :=
  ⟨rfl, by simpa only [PyData.leavesShort] using h, hl, Nat.le_refl _⟩
theorem SmL.nil : SmL 0 0 [] := ⟨rfl, rfl, Nat.le_refl _, Nat.le_refl _⟩
theorem SmL.cons {W n V m : Nat} {p : PyData} {l : List PyData} (h : SmP W n p) (k : SmL V m l) : SmL (W + 1 + V) (max n m) (p :: l) := by
  obtain ⟨h1, h2, h3, h4⟩ := h
  obtain ⟨k1, k2, k3, k4⟩ := k
  refine ⟨by simp only [PyData.showableAll, h1, k1, Bool.and_self], by simp only [PyData.leavesShortAll, h2, k2, Bool.and_self], by simp only [PyData.bulkAll]; omega, by simp only [PyData.depthAll]; omega⟩
theorem SmL.mono {W n V m : Nat} {p : List PyData} (h : SmL W n p) (k : W ≤ V) (j : n ≤ m) : SmL V m p := ⟨h.s, h.l, Nat.le_trans h.b k, Nat.le_trans h.d j⟩
theorem SmL.tup {W n : Nat} {l : List PyData} (h : SmL W n l) : SmP W (n + 1) (.tuple l) :=
  ⟨by simpa only [PyData.showable] using h.s, by simpa only [PyData.leavesShort] using h.l, by simpa only [PyData.bulk] using h.b, by simp only [PyData.depth]; have := h.d; omega⟩
theorem SmL.lst {W n : Nat} {l : List PyData} (h : SmL W n l) : SmP W (n + 1) (.list l) :=
  ⟨by simpa only [PyData.showable] using h.s, by simpa only [PyData.leavesShort] using h.l, by simpa only [PyData.bulk] using h.b, by simp only [PyData.depth]; have := h.d; omega⟩
theorem SmL.ints : ∀ {ns : List Int}, (∀ n ∈ ns, n.natAbs < 10 ^ 12) → SmL ns.length 0 (ns.map .int)
  | [], _ => .nil
  | n :: r, h => by
    have := SmL.cons (SmP.int (h n List.mem_cons_self)) (SmL.ints (ns := r) fun m hm => h m (List.mem_cons_of_mem _ hm))
    exact this.mono (by rw [List.length_cons]; omega) (by simp)
/-! how the heap's data is read: stays so while nothing of it is changed -/
structure ShA (s : List Nat) (A : Hs) (W n : Nat) (d : D) : Prop where
  ex : ∃ p, (∀ B, Fr s A B → ∀ k, n ≤ k → pyA B k d = some p) ∧ p.hasDict = false ∧ SmP W n p
structure ShQ (s : List Nat) (A : Hs) (W n : Nat) (d : D) : Prop where
  ex : ∃ p, (∀ B, Fr s A B → ∀ k, n ≤ k → pyQ B k d = some p) ∧ SmP W n p
def NoA (s : List Nat) (A : Hs) (d : D) : Prop := ∀ B, Fr s A B → ∀ k, pyA B k d = none
structure ShAL (s : List Nat) (A : Hs) (W n : Nat) (l : List D) : Prop where
  ex : ∃ p, (∀ B, Fr s A B → ∀ k, n ≤ k → allSome (l.map (pyA B k)) = some p) ∧ PyData.hasDictAll p = false ∧ SmL W n p
structure ShQL (s : List Nat) (A : Hs) (W n : Nat) (l : List D) : Prop where
  ex : ∃ p, (∀ B, Fr s A B → ∀ k, n ≤ k → allSome (l.map (pyQ B k)) = some p) ∧ SmL W n p
section
variable {s : List Nat} {A : Hs} {W V n m : Nat} {d : D} {l : List D}
theorem ShA.mono (h : ShA s A W n d) (k : W ≤ V) (j : n ≤ m) : ShA s A V m d := by
  obtain ⟨p, h1, h2, h3⟩ := h.ex
  exact ⟨p, fun B f q hq => h1 B f q (by omega), h2, h3.mono k j⟩
theorem ShQ.mono (h : ShQ s A W n d) (k : W ≤ V) (j : n ≤ m) : ShQ s A V m d := by
  obtain ⟨p, h1, h3⟩ := h.ex
  exact ⟨p, fun B f q hq => h1 B f q (by omega), h3.mono k j⟩
theorem ShAL.mono (h : ShAL s A W n l) (k : W ≤ V) (j : n ≤ m) : ShAL s A V m l := by
  obtain ⟨p, h1, h2, h3⟩ := h.ex
  exact ⟨p, fun B f q hq => h1 B f q (by omega), h2, h3.mono k j⟩
theorem ShQL.mono (h : ShQL s A W n l) (k : W ≤ V) (j : n ≤ m) : ShQL s A V m l := by
  obtain ⟨p, h1, h3⟩ := h.ex
  exact ⟨p, fun B f q hq => h1 B f q (by omega), h3.mono k j⟩
theorem ShA.frame {A1 : Hs} (h : ShA s A W n d) (f : Fr s A A1) : ShA s A1 W n d := by
  obtain ⟨p, h1, h2, h3⟩ := h.ex
  exact ⟨p, fun B g => h1 B (f.trans g), h2, h3⟩
theorem ShQ.frame {A1 : Hs} (h : ShQ s A W n d) (f : Fr s A A1) : ShQ s A1 W n d := by
  obtain ⟨p, h1, h3⟩ := h.ex
  exact ⟨p, fun B g => h1 B (f.trans g), h3⟩
theorem NoA.frame {A1 : Hs} (h : NoA s A d) (f : Fr s A A1) : NoA s A1 d := fun B g => h B (f.trans g)
theorem ShA.non : ShA s A 0 0 .non := ⟨_, fun B _ k _ => by cases k <;> rfl, rfl, SmP.non⟩
theorem ShA.bl {b : Bool} : ShA s A 0 0 (.bl b) := ⟨_, fun B _ k _ => by cases k <;> rfl, rfl, SmP.bl⟩
theorem ShA.int {i : Int} (h : i.natAbs < 10 ^ 12) : ShA s A 0 0 (.int i) := ⟨_, fun B _ k _ => by cases k <;> rfl, rfl, SmP.int h⟩
theorem ShA.dS {z : String} (h : ((fS z).cps.toList.all fun c => decide (c < 16 ^ 8)) = true) (hl : (fS z).cps.size ≤ 20) : ShA s A 20 0 (dS z) := ⟨_, fun B _ k _ => by cases k <;> rfl, rfl, SmP.dS h hl⟩
theorem ShQ.non : ShQ s A 0 0 .non := ⟨_, fun B _ k _ => by cases k <;> rfl, SmP.non⟩
theorem ShQ.bl {b : Bool} : ShQ s A 0 0 (.bl b) := ⟨_, fun B _ k _ => by cases k <;> rfl, SmP.bl⟩
theorem ShQ.int {i : Int} (h : i.natAbs < 10 ^ 12) : ShQ s A 0 0 (.int i) := ⟨_, fun B _ k _ => by cases k <;> rfl, SmP.int h⟩
theorem ShQ.dS {z : String} (h : ((fS z).cps.toList.all fun c => decide (c < 16 ^ 8)) = true) (hl : (fS z).cps.size ≤ 20) : ShQ s A 20 0 (dS z) := ⟨_, fun B _ k _ => by cases k <;> rfl, SmP.dS h hl⟩
theorem ShAL.nil : ShAL s A 0 0 [] := ⟨[], fun _ _ _ _ => rfl, rfl, .nil⟩
theorem ShQL.nil : ShQL s A 0 0 [] := ⟨[], fun _ _ _ _ => rfl, .nil⟩
theorem ShAL.cons (h : ShA s A W n d) (k : ShAL s A V m l) : ShAL s A (W + 1 + V) (max n m) (d :: l) := by
  obtain ⟨p, h1, h2, h3⟩ := h.ex
  obtain ⟨q, k1, k2, k3⟩ := k.ex
  refine ⟨p :: q, fun B f j hj => ?_, by simp only [PyData.hasDictAll, h2, k2, Bool.or_self], SmL.cons h3 k3⟩
  rw [List.map_cons, h1 B f j (by omega), allSome, k1 B f j (by omega)]
  rfl
theorem ShQL.cons (h : ShQ s A W n d) (k : ShQL s A V m l) : ShQL s A (W + 1 + V) (max n m) (d :: l) := by
  obtain ⟨p, h1, h3⟩ := h.ex
  obtain ⟨q, k1, k3⟩ := k.ex
  refine ⟨p :: q, fun B f j hj => ?_, SmL.cons h3 k3⟩
  rw [List.map_cons, h1 B f j (by omega), allSome, k1 B f j (by omega)]
  rfl
theorem ShAL.tup (h : ShAL s A W n l) : ShA s A W (n + 1) (.tup l) := by
  obtain ⟨p, h1, h2, h3⟩ := h.ex
  refine ⟨.tuple p, fun B f k hk => ?_, by simpa only [PyData.hasDict] using h2, h3.tup⟩
  cases k with
  | zero => omega
  | succ k => unfold pyA; rw [h1 B f k (by omega)]; rfl
theorem ShQL.tup (h : ShQL s A W n l) : ShQ s A W (n + 1) (.tup l) := by
  obtain ⟨p, h1, h3⟩ := h.ex
  refine ⟨.tuple p, fun B f k hk => ?_, h3.tup⟩
  cases k with
  | zero => omega
  | succ k => unfold pyQ; rw [h1 B f k (by omega)]; rfl
theorem ShAL.lst {q : Nat} (h : ShAL s A W n l) (hq : A[q]? = some (.lst l)) (hn : q ∉ s) : ShA s A W (n + 1) (.ref q) := by
  obtain ⟨p, h1, h2, h3⟩ := h.ex
  refine ⟨.list p, fun B f k hk => ?_, by simpa only [PyData.hasDict] using h2, h3.lst⟩
  cases k with
  | zero => omega
  | succ k => rw [py_lst (f.get hq hn), h1 B f k (by omega)]; rfl
theorem ShAL.ints {ns : List Int} (h : ∀ n ∈ ns, n.natAbs < 10 ^ 12) : ShAL s A ns.length 0 (ns.map D.int) := by
  refine ⟨ns.map .int, fun B _ k _ => ?_, ?_, .ints h⟩
  · clear h
    induction ns with
    | nil => rfl
    | cons n r ih =>
      have e : pyA B k (.int n) = some (.int n) := by cases k <;> rfl
      rw [List.map_cons, List.map_cons, e, allSome, ih]; rfl
  · clear h
    induction ns with
    | nil => rfl
    | cons n r ih => simpa only [List.map_cons, PyData.hasDictAll, PyData.hasDict, Bool.false_or] using ih
theorem ShQL.ints {ns : List Int} (h : ∀ n ∈ ns, n.natAbs < 10 ^ 12) : ShQL s A ns.length 0 (ns.map D.int) := by
  refine ⟨ns.map .int, fun B _ k _ => ?_, .ints h⟩
  clear h
  induction ns with
  | nil => rfl
  | cons n r ih =>
    have e : pyQ B k (.int n) = some (.int n) := by cases k <;> rfl
    rw [List.map_cons, List.map_cons, e, allSome, ih]; rfl
theorem NoA.dic {q : Nat} {b lk : Bool} {kv : List (D × D)} (hq : A[q]? = some (.dic b lk kv)) (hn : q ∉ s) : NoA s A (.ref q) := fun B f k => by
  cases k with
  | zero => rfl
  | succ k => unfold pyA; rw [f.get hq hn]
theorem NoA.all {k : Nat} {B : Hs} (f : Fr s A B) (hd : d ∈ l) (h : NoA s A d) : allSome (l.map (pyA B k)) = none := by
  induction l with
  | nil => cases hd
  | cons x r ih =>
    rw [List.map_cons]
    rcases List.mem_cons.mp hd with rfl | hd
    · rw [h B f k]; rfl
    · cases pyA B k x with
      | none => rfl
      | some p => rw [allSome, ih hd]; rfl
theorem NoA.tup (hd : d ∈ l) (h : NoA s A d) : NoA s A (.tup l) := fun B f k => by
  cases k with
  | zero => rfl
  | succ k => unfold pyA; rw [h.all f hd]; rfl
theorem SmP.fits {p : PyData} (h : SmP W n p) (hW : W ≤ 1000000) : p.shown.length ≤ sizeLine := by
  have e := PyData.shown_le_bulk 13 (by decide) p h.l
  have := h.b
  have e2 : (13 + 2) * p.bulk ≤ 15 * 1000000 := Nat.mul_le_mul (by omega) (by omega)
  rw [sizeLine_eq]
  omega
end

/-! lists of different lengths -/
theorem eqvAll_len : ∀ {xs ys : List PyData}, xs.length ≠ ys.length → PyData.eqvAll xs ys = false
  | [], [], h => absurd rfl h
  | [], _ :: _, _ => by simp [PyData.eqvAll]
  | _ :: _, [], _ => by simp [PyData.eqvAll]
  | x :: xs, y :: ys, h => by
    unfold PyData.eqvAll
    rw [eqvAll_len (xs := xs) (ys := ys) (by simpa using h), Bool.and_false]
theorem allSome_len {α : Type} : ∀ {l : List (Option α)} {ps : List α}, allSome l = some ps → ps.length = l.length
  | [], ps, h => by cases h; rfl
  | some a :: r, ps, h => by
    unfold allSome at h
    obtain ⟨qs, hq, rfl⟩ := Option.map_eq_some_iff.mp h
    simp [allSome_len hq]
  | none :: _, _, h => by cases h
theorem eqA_len {A : Hs} {i j : Nat} {l k : List D} (h : A[i]? = some (.lst l)) (g : A[j]? = some (.lst k)) (hn : l.length ≠ k.length) : eqA A (.ref i) (.ref j) = some false := by
  unfold eqA
  rw [py_lst h, py_lst g]
  cases q1 : allSome (l.map (pyA A 39)) with
  | none => unfold unL; simp [h, g, hn]
  | some ps =>
    cases q2 : allSome (k.map (pyA A 39)) with
    | none => unfold unL; simp [h, g, hn]
    | some qs =>
      have e1 := allSome_len q1
      have e2 := allSome_len q2
      rw [List.length_map] at e1 e2
      simp [PyData.eqv, eqvAll_len (xs := ps) (ys := qs) (by omega)]
theorem oEq_len {A : Hs} {i j : Nat} {l k : List D} (h : A[i]? = some (.lst l)) (g : A[j]? = some (.lst k)) (hn : l.length ≠ k.length) : oEq (.ref i) (.ref j) A = .ok (.bl false) A := eqA_of (eqA_len h g hn)

/-! rows of the paper: none is empty, all numbers are small -/
theorem wps_lt {q : Tk} : ∀ {P : List Ln} {o : Nat}, (∀ x ∈ P, LnOk x) → ∀ p ∈ wps o P q, p.1 < o + P.length ∧ p.2 < 1000
  | [], o, _, p, hp => by cases hp
  | x :: r, o, h, p, hp => by
    rw [wps, List.mem_append] at hp
    rcases hp with hp | hp
    · obtain ⟨i, hi, rfl⟩ := List.mem_map.mp hp
      rw [List.mem_range] at hi
      have hx := h x List.mem_cons_self
      have : (wrE q x).length ≤ 1000 := by
        unfold wrE
        cases e : x.e with
        | wr l =>
          have h2 := hx.e
          rw [e] at h2
          simp only
          split
          · exact h2.2.2
          · simp
        | _ => simp
      simp only [List.length_cons]
      omega
    · have := wps_lt (fun y hy => h y (List.mem_cons_of_mem _ hy)) p hp
      rw [List.length_cons]
      omega
theorem papL_lt : ∀ {r P : List Ln}, (∀ x ∈ P, LnOk x) → (∀ x ∈ r, LnOk x) → ∀ w ∈ papL P r, ∀ p ∈ w, p.1 < P.length + r.length ∧ p.2 < 1000
  | [], P, _, _, w, hw => by cases hw
  | x :: r, P, hP, hr, w, hw => by
    rw [papL, List.mem_append] at hw
    intro p hp
    rcases hw with hw | hw
    · split at hw
      · rw [List.mem_singleton] at hw
        subst hw
        unfold rowL at hp
        split at hp
        · have := wps_lt hP p (List.mem_of_mem_drop (List.mem_of_mem_take hp))
          rw [List.length_cons]
          omega
        · cases hp
      · cases hw
    · have := papL_lt (r := r) (P := P ++ [x]) (fun y hy => by
        rcases List.mem_append.mp hy with h | h
        · exact hP y h
        · rw [List.mem_singleton] at h; subst h; exact hr _ List.mem_cons_self) (fun y hy => hr y (List.mem_cons_of_mem _ hy)) w hw p hp
      simp only [List.length_append, List.length_singleton, List.length_cons, List.length_nil] at this ⊢
      omega
theorem rowL_pos {P : List Ln} {x : Ln} (hr : rightP P x = true) (hx : LnOk x) (hd : isRd x = true) : 1 ≤ (rowL P x).length := by
  unfold isRd at hd
  cases e : x.e with
  | rd l =>
    have h2 := hx.e
    rw [e] at h2
    unfold rightP at hr
    rw [e] at hr
    simp only at hr
    cases ho : own P x.k with
    | none => rw [ho] at hr; cases hr
    | some o =>
      rw [ho] at hr
      simp only at hr
      split at hr
      · unfold goesOn at hr
        have h1 := of_decide_eq_true hr
        have h3 := congrArg List.length h1
        rw [List.length_take, List.length_append] at h3
        unfold rowL
        rw [e, ho]
        simp only [List.length_take, List.length_drop, wps_len]
        have := h2.2.1
        omega
      · cases hr
  | _ => rw [e] at hd; cases hd
theorem papL_pos : ∀ {r P : List Ln}, allRight P r → (∀ x ∈ r, LnOk x) → ∀ w ∈ papL P r, 1 ≤ w.length
  | [], P, _, _, w, hw => by cases hw
  | x :: r, P, ha, hr, w, hw => by
    rw [papL, List.mem_append] at hw
    rcases hw with hw | hw
    · split at hw
      · rename_i c
        rw [List.mem_singleton] at hw
        subst hw
        exact rowL_pos ha.1 (hr x List.mem_cons_self) c
      · cases hw
    · exact papL_pos ha.2 (fun y hy => hr y (List.mem_cons_of_mem _ hy)) w hw
/-- what is known of a paper -/
structure Pp (R : List (List (Nat × Nat))) : Prop where
  l : R.length ≤ 254
  p : ∀ w ∈ R, 1 ≤ w.length ∧ w.length ≤ 1000
  n : ∀ w ∈ R, ∀ p ∈ w, p.1 ≤ 1000 ∧ p.2 ≤ 1000
theorem Pp.of {L : List Ln} (h : BkOk L) (hl : L.length ≤ 254) (hw : fwr [] L = none) : Pp (papL [] L) :=
  ⟨Nat.le_trans papL_len hl, fun w hw' => ⟨papL_pos (fwr_none hw) h.x w hw', papL_w h.x w hw'⟩, fun w hw' p hp => by
    have := papL_lt (r := L) (P := []) (by simp) h.x w hw' p hp
    simp only [List.length_nil] at this
    omega⟩
/-! equal but for one -/
theorem eqv_mid {a b : PyData} : ∀ {X Y : List PyData}, PyData.eqvAll X X = true → PyData.eqvAll Y Y = true → PyData.eqvAll (X ++ a :: Y) (X ++ b :: Y) = PyData.eqv a b
  | [], Y, _, hY => by
    rw [List.nil_append, List.nil_append, PyData.eqvAll, hY, Bool.and_true]
  | x :: X, Y, hX, hY => by
    rw [PyData.eqvAll, Bool.and_eq_true] at hX
    rw [List.cons_append, List.cons_append, PyData.eqvAll, hX.1, Bool.true_and, eqv_mid hX.2 hY]
theorem eqv_pys (w : List (Nat × Nat)) : PyData.eqvAll (w.map pyP) (w.map pyP) = true := by
  rw [eqv_list (fun a b => eqv_pyP)]
  simp
theorem eqv_pyl (R : List (List (Nat × Nat))) : PyData.eqvAll (R.map fun w => PyData.list (w.map pyP)) (R.map fun w => PyData.list (w.map pyP)) = true := by
  have : PyData.eqv (pyR R) (pyR R) = true := by rw [eqv_pyR]; simp
  unfold pyR at this
  simpa only [PyData.eqv] using this
/-! the length of what is shown -/
theorem join_len : ∀ (l : List Str), (Str.join ", " l).length = (l.map (·.length)).sum + 2 * (l.length - 1)
  | [] => rfl
  | [x] => by show x.length = _; simp
  | x :: y :: r => by
    have ih := join_len (y :: r)
    show (x ++ ", " ++ Str.join ", " (y :: r)).length = _
    rw [strLen_append, strLen_append, ih]
    have : (Str.ofString ", ").length = 2 := by decide
    simp only [List.map_cons, List.sum_cons, List.length_cons]
    omega
theorem shown_mid {a b : PyData} {X Y : List PyData} (h : a.shown.length ≠ b.shown.length) : (PyData.list (X ++ a :: Y)).shown.length ≠ (PyData.list (X ++ b :: Y)).shown.length := by
  have e : ∀ c : PyData, (PyData.list (X ++ c :: Y)).shown.length = 1 + (((PyData.shownAll (X ++ c :: Y)).map (·.length)).sum + 2 * ((PyData.shownAll (X ++ c :: Y)).length - 1)) + 1 := fun c => by
    rw [PyData.shown_list, strLen_append, strLen_append, join_len]
    rfl
  have e2 : ∀ (X : List PyData) (c : PyData), ((PyData.shownAll (X ++ c :: Y)).map (·.length)).sum = ((PyData.shownAll X).map (·.length)).sum + c.shown.length + ((PyData.shownAll Y).map (·.length)).sum := fun X c => by
    induction X with
    | nil => simp [PyData.shownAll]
    | cons x X ih => simp only [List.cons_append, PyData.shownAll, List.map_cons, List.sum_cons]; omega
  rw [e, e, e2, e2, PyData.shownAll_length, PyData.shownAll_length]
  simp only [List.length_append, List.length_cons]
  omega
theorem shown_pair {a b : PyData} : (PyData.tuple [a, b]).shown.length = a.shown.length + b.shown.length + 4 := by
  rw [PyData.shown_tuple, strLen_append, strLen_append, join_len]
  simp only [PyData.shownAll_cons, PyData.shownAll_nil, List.map_cons, List.map_nil, List.sum_cons, List.sum_nil, List.length_cons, List.length_nil]
  have h1 : (Str.ofString "(").length = 1 := by decide
  have h2 : (Str.ofString (if (1 + 1 == 1) = true then ",)" else ")")).length = 1 := by decide
  have h3 : (Str.ofString (if (0 + 1 + 1 == 1) = true then ",)" else ")")).length = 1 := by decide
  omega

/-! papers of no right form -/
/-- what a thing is as a pair, at all times -/
def Pq (A : Hs) (d : D) (c : Bool) : Prop := ∀ B, Fr [] A B → ∃ A1, F_is_pair [d] B = .ok (.bl c) A1 ∧ Fr [] B A1
theorem Pq.frame {A B : Hs} {d : D} {c : Bool} (h : Pq A d c) (f : Fr [] A B) : Pq B d c := fun C g => h C (f.trans g)
theorem pq_pr {A : Hs} {p : Nat × Nat} : Pq A (prD p) true := fun _ _ => is_pair_ok
theorem pq_no {A : Hs} {d : D} (h : ∀ B, Fr [] A B → oIsi os_ xs_ tb_ d (.ty "tuple") B = .ok (.bl false) B) : Pq A d false := fun B f => ⟨B, by
  have e := h B f
  unfold F_is_pair
  simp_arith [e], .refl⟩
theorem pq_3 {A : Hs} {a b c : D} : Pq A (.tup [a, b, c]) false := fun B f => ⟨B, by
  unfold F_is_pair
  simp_arith [], .refl⟩
/-- whether a thing is a whole number -/
def wh1 : D → Bool
  | .int _ => true
  | _ => false
inductive Sc : D → Prop
  | non : Sc .non
  | bl (b : Bool) : Sc (.bl b)
  | int (n : Int) : Sc (.int n)
  | str (z : Str) : Sc (.str z)
theorem pq_2 {A : Hs} {a b : D} (ha : Sc a) (hb : Sc b) : Pq A (.tup [a, b]) (wh1 a && wh1 b) := fun B f => by
  have key : lcL (gN 1) tYe (eAnd (eCB (c2 (oIsi os_ xs_ tb_)) (aCons (eVar 1) (aCons (eC (.ty "int")) aNil))) (eNot (eCB (c2 (oIsi os_ xs_ tb_)) (aCons (eVar 1) (aCons (eC (.ty "bool")) aNil))))) tt [some (.tup [a, b]), none] [a, b] [] B = .ok (([a, b].filter fun _ => true).map fun d => D.bl (wh1 d)) B := by
    refine lc_go _ _ trivial (by simp) fun d hd => ?_
    have sc : Sc d := by
      simp only [List.mem_cons, List.not_mem_nil, or_false] at hd
      rcases hd with rfl | rfl <;> assumption
    have i1 : ∀ z : Str, oIsi os_ xs_ tb_ (.str z) (.ty "int") B = .ok (.bl false) B := fun _ => rfl
    show Got _ _
    cases sc with
    | non => simp_arith []; try exact fun _ => rfl
    | bl b => simp_arith []; try exact fun _ => rfl
    | int n => simp_arith []; try exact fun _ => rfl
    | str z => simp_arith [i1]; try exact fun _ => rfl
  rw [show ([a, b].filter fun _ => true).map (fun d => D.bl (wh1 d)) = [D.bl (wh1 a), .bl (wh1 b)] from rfl] at key
  have al : boolsOf [D.bl (wh1 a), .bl (wh1 b)] = some [wh1 a, wh1 b] := rfl
  refine ⟨B ++ [.lst [.bl (wh1 a), .bl (wh1 b)]], ?_, .push⟩
  unfold F_is_pair
  simp_arith [key, al]
  cases wh1 a <;> cases wh1 b <;> rfl
section
variable {A : Hs} {q : Nat} {l : List D}
theorem isl_l (h : A[q]? = some (.lst l)) : oIsi os_ xs_ tb_ (.ref q) (.ty "list") A = .ok (.bl true) A := by
  unfold oIsi isiD kdOf
  simp only [h]
  rfl
theorem isl_d {kv : List (D × D)} (h : A[q]? = some (.dic false false kv)) : oIsi os_ xs_ tb_ (.ref q) (.ty "list") A = .ok (.bl false) A := by
  unfold oIsi isiD kdOf
  simp only [h]
  rfl
theorem isi_lt (h : A[q]? = some (.lst l)) : oIsi os_ xs_ tb_ (.ref q) (.ty "tuple") A = .ok (.bl false) A := by
  unfold oIsi isiD kdOf
  simp only [h]
  rfl
theorem formed_no {W : D} (h : oIsi os_ xs_ tb_ W (.ty "list") A = .ok (.bl false) A) : F_is_formed [W] A = .ok (.bl false) A := by
  unfold F_is_formed
  simp_arith [h]
/-- one row is no list -/
theorem formed_row {k : Nat} {d : D} (hq : A[q]? = some (.lst l)) (hl : l.length ≤ 1000) (hk : l[k]? = some d) (hd : oIsi os_ xs_ tb_ d (.ty "list") A = .ok (.bl false) A) (ho : ∀ e ∈ l, ∃ c, oIsi os_ xs_ tb_ e (.ty "list") A = .ok (.bl c) A) :
    ∃ A1, F_is_formed [.ref q] A = .ok (.bl false) A1 ∧ Fr [] A A1 := by
  have R := lc_run (A := A) (g := gN 1) (t := tYe) (a := eCB (c2 (oIsi os_ xs_ tb_)) (aCons (eVar 1) (aCons (eC (.ty "list")) aNil))) (gd := fun A' => A'[q]? = some (.lst l)) (env := [some (.ref q), none, none]) (ds := l) (fun j r B => (∃ bs : List Bool, r = bs.map D.bl ∧ (k < j → false ∈ bs)) ∧ B = A) ⟨⟨[], rfl, fun h => by omega⟩, rfl⟩ (by omega) (fun _ _ B h => by rw [h.2]; exact hq) (by
    rintro j e he r B ⟨⟨bs, rfl, hf⟩, rfl⟩
    obtain ⟨c, hc⟩ := ho e (List.mem_of_getElem? he)
    show Got _ _
    simp_arith [hc]
    refine ⟨bs ++ [c], by simp, fun h => ?_⟩
    rw [List.mem_append, List.mem_singleton]
    by_cases z : j = k
    · subst z
      rw [hk] at he
      cases he
      rw [hc] at hd
      injection hd with hd _
      injection hd with hd
      exact .inr hd.symm
    · exact .inl (hf (by omega)))
  obtain ⟨r, A1, e, ⟨bs, rfl, hf⟩, rfl⟩ := R.ex
  have hf := hf (List.getElem?_eq_some_iff.mp hk).1
  have e1 : bs.all id = false := by
    rw [List.all_eq_false]
    exact ⟨false, hf, by simp⟩
  have i1 := isl_l hq
  refine ⟨A1 ++ [.lst (bs.map D.bl)], ?_, .push⟩
  unfold F_is_formed
  simp_arith [hq, i1, e, e1]
/-- a row's things asked -/
theorem row_lc {B : Hs} {r : Nat} {l : List D} {o0 : Option D} (hr : B[r]? = some (.lst l)) (hl : l.length ≤ 1000000) (h : ∀ d ∈ l, ∃ c, Pq B d c) : ∃ bs : List Bool, ∃ B1, lcL (gN 2) tYe (eCall0 F_is_pair (aCons (eVar 2) aNil)) (fun A' => A'[r]? = some (.lst l)) [o0, some (.ref r), none] l [] B = .ok (bs.map D.bl) B1 ∧ ((∃ d ∈ l, Pq B d false) → false ∈ bs) ∧ Fr [] B B1 := by
  have R := lc_run (A := B) (g := gN 2) (t := tYe) (a := eCall0 F_is_pair (aCons (eVar 2) aNil)) (gd := fun A' => A'[r]? = some (.lst l)) (env := [o0, some (.ref r), none]) (ds := l) (fun j s C => (∃ bs : List Bool, s = bs.map D.bl ∧ ((∃ i d, i < j ∧ l[i]? = some d ∧ Pq B d false) → false ∈ bs)) ∧ Fr [] B C) ⟨⟨[], rfl, fun ⟨i, _, h, _⟩ => by omega⟩, .refl⟩ (by omega) (fun _ _ C h => h.2.get hr (by simp)) (by
    rintro j e he s C ⟨⟨bs, rfl, hf⟩, fC⟩
    obtain ⟨c, hc⟩ := h e (List.mem_of_getElem? he)
    obtain ⟨C1, e1, f1⟩ := hc C fC
    show Got _ _
    simp_arith [e1]
    refine ⟨⟨bs ++ [c], by simp, ?_⟩, fC.trans f1⟩
    rintro ⟨i, d, hi, hd, hp⟩
    rw [List.mem_append, List.mem_singleton]
    by_cases z : i = j
    · subst z
      rw [he] at hd
      cases hd
      obtain ⟨C2, e2, _⟩ := hp C fC
      rw [e1] at e2
      injection e2 with e2 _
      injection e2 with e2
      exact .inr e2.symm
    · exact .inl (hf ⟨i, d, by omega, hd, hp⟩))
  obtain ⟨s, B1, e, ⟨bs, rfl, hf⟩, f⟩ := R.ex
  refine ⟨bs, B1, e, fun ⟨d, hd, hp⟩ => ?_, f⟩
  obtain ⟨i, hi⟩ := List.getElem?_of_mem hd
  exact hf ⟨i, d, (List.getElem?_eq_some_iff.mp hi).1, hi, hp⟩
/-- one thing in one row is no pair -/
theorem formed_pair {rs : List Nat} {k : Nat} (hq : A[q]? = some (.lst (rs.map D.ref))) (hl : rs.length ≤ 1000) (ho : ∀ r ∈ rs, ∃ l, A[r]? = some (.lst l) ∧ l.length ≤ 1000000 ∧ ∀ d ∈ l, ∃ c, Pq A d c)
    (hk : ∃ r l, rs[k]? = some r ∧ A[r]? = some (.lst l) ∧ ∃ d ∈ l, Pq A d false) : ∃ A1, F_is_formed [.ref q] A = .ok (.bl false) A1 ∧ Fr [] A A1 := by
  have i0 := isl_l hq
  have lc := lc_of (g := gN 1) (t := tYe) (a := eCB (c2 (oIsi os_ xs_ tb_)) (aCons (eVar 1) (aCons (eC (.ty "list")) aNil))) (gd := fun A' => A'[q]? = some (.lst (rs.map D.ref))) (env := [some (.ref q), none, none]) (A := A) D.ref (fun _ => true) (fun _ => D.bl true) hq (L := rs) (acc := []) (by simp; omega) (fun r hr => by
    obtain ⟨l, hw, _⟩ := ho r hr
    have := isl_l hw
    show Got _ _
    simp_arith [this]
    try exact fun _ => trivial)
  rw [List.nil_append, List.filter_eq_self.mpr (by simp)] at lc
  obtain ⟨A1, hA1⟩ : ∃ A1, A1 = A ++ [O.lst (rs.map fun _ => D.bl true)] := ⟨_, rfl⟩
  have f1 : Fr [] A A1 := by rw [hA1]; exact .push
  have hq1 := f1.get hq (by simp)
  obtain ⟨r0, l0, hr0, hl0, hbad⟩ := hk
  have R := lc_run (A := A1) (g := gN 1) (t := tYe) (a := eCB (c1 oAll) (aCons (eLc (wSeq (eVar 1)) (gN 2) tYe (eCall0 F_is_pair (aCons (eVar 2) aNil)) [2]) aNil)) (gd := fun A' => A'[q]? = some (.lst (rs.map D.ref))) (env := [some (.ref q), none, none]) (ds := rs.map D.ref) (fun j s C => (∃ bs : List Bool, s = bs.map D.bl ∧ (k < j → false ∈ bs)) ∧ Fr [] A C) ⟨⟨[], rfl, fun h => by omega⟩, f1⟩ (by simp; omega) (fun _ _ C h => h.2.get hq (by simp)) (by
    rintro j e he s C ⟨⟨bs, rfl, hf⟩, fC⟩
    rw [List.getElem?_map] at he
    obtain ⟨r, hr, rfl⟩ := Option.map_eq_some_iff.mp he
    obtain ⟨l, h1, h2, h3⟩ := ho r (List.mem_of_getElem? hr)
    have hC := fC.get h1 (by simp)
    obtain ⟨cs, C1, e1, hcs, g1⟩ := row_lc (o0 := some (.ref q)) hC h2 (fun d hd => by obtain ⟨c, hc⟩ := h3 d hd; exact ⟨c, hc.frame fC⟩)
    show Got _ _
    simp_arith [hC, e1]
    refine ⟨⟨bs ++ [cs.all id], by simp, fun h => ?_⟩, fC.trans g1.then_push⟩
    rw [List.mem_append, List.mem_singleton]
    by_cases z : j = k
    · subst z
      rw [hr] at hr0
      cases hr0
      rw [h1] at hl0
      cases hl0
      obtain ⟨d, hd, hp⟩ := hbad
      refine .inr ?_
      symm
      rw [List.all_eq_false]
      exact ⟨false, hcs ⟨d, hd, hp.frame fC⟩, by simp⟩
    · exact .inl (hf (by omega)))
  obtain ⟨s, A2, e2, ⟨bs, rfl, hf⟩, f2⟩ := R.ex
  have hkl := (List.getElem?_eq_some_iff.mp hr0).1
  have hf := hf (by simpa using hkl)
  have e6 : bs.all id = false := by
    rw [List.all_eq_false]
    exact ⟨false, hf, by simp⟩
  have e7 : (rs.map fun _ => true).all id = true := by simp
  refine ⟨A2 ++ [.lst (bs.map D.bl)], ?_, f2.then_push⟩
  have gA1 : A1[A.length]? = some (.lst (rs.map fun _ => D.bl true)) := by rw [hA1]; simp
  unfold F_is_formed
  simp_arith [hq, i0, lc, ← hA1, gA1, all_trs, e7, hq1, e2, e6]
end

/-! what a thing is as a paper, by the program and by the law -/
structure Vw (A : Hs) (R : List (List (Nat × Nat))) (W : D) (v : Bool) : Prop where
  form : ∀ B, Fr [] A B → ∃ f B1, F_is_formed [W] B = .ok (.bl f) B1 ∧ Fr [] B B1 ∧ (f = false → v = false) ∧ (f = true → ∀ C p rs, Fr [] A C → IsPp C p rs R → oEq W (.ref p) C = .ok (.bl v) C)
  same : ∀ B p rs, Fr [] A B → IsPp B p rs R → (oEqX W (.ref p) B = .ok (.bl false) B ∧ v = false) ∨
    (oEqX W (.ref p) B = .ok (.bl true) B ∧ ∃ z1 z2, oRepr W B = .ok (.str z1) B ∧ oRepr (.ref p) B = .ok (.str z2) B ∧ decide (z1 = z2) = v)
theorem SmL.app {a b n m : Nat} {k : List PyData} : ∀ {l : List PyData}, SmL a n l → SmL b m k → SmL (a + b) (max n m) (l ++ k)
  | [], h, hk => by simpa using hk.mono (Nat.le_add_left _ _) (by omega)
  | x :: l, h, hk => by
    obtain ⟨h1, h2, h3, h4⟩ := h
    simp only [PyData.showableAll, Bool.and_eq_true] at h1
    simp only [PyData.leavesShortAll, Bool.and_eq_true] at h2
    simp only [PyData.bulkAll] at h3
    simp only [PyData.depthAll] at h4
    have hx : SmP x.bulk n x := ⟨h1.1, h2.1, Nat.le_refl _, by omega⟩
    have hl : SmL (a - x.bulk - 1) n l := ⟨h1.2, h2.2, by omega, by omega⟩
    exact (SmL.cons hx (SmL.app hl hk)).mono (by omega) (by omega)
theorem smPr {p : Nat × Nat} (h : p.1 ≤ 1000 ∧ p.2 ≤ 1000) : SmP 2 1 (pyP p) :=
  (SmL.cons (SmP.int (i := (p.1 : Nat)) (by omega)) (SmL.cons (SmP.int (i := (p.2 : Nat)) (by omega)) .nil)).tup.mono (by decide) (by decide)
theorem smRow : ∀ {w : List (Nat × Nat)}, (∀ p ∈ w, p.1 ≤ 1000 ∧ p.2 ≤ 1000) → SmL (3 * w.length) 1 (w.map pyP)
  | [], _ => SmL.nil.mono (by simp) (by simp)
  | p :: w, h => (SmL.cons (smPr (h p List.mem_cons_self)) (smRow (w := w) fun q hq => h q (List.mem_cons_of_mem _ hq))).mono (by rw [List.length_cons]; omega) (by simp)
def pyl (R : List (List (Nat × Nat))) : List PyData := R.map fun w => .list (w.map pyP)
theorem smRows : ∀ {R : List (List (Nat × Nat))}, (∀ w ∈ R, w.length ≤ 1000 ∧ ∀ p ∈ w, p.1 ≤ 1000 ∧ p.2 ≤ 1000) → SmL (R.length * 3001) 2 (pyl R)
  | [], _ => SmL.nil.mono (by simp) (by simp)
  | w :: R, h => by
    have hw := h w List.mem_cons_self
    have h1 : SmP 3000 2 (.list (w.map pyP)) := (smRow hw.2).lst.mono (by omega) (by decide)
    refine (SmL.cons h1 (smRows (R := R) fun q hq => h q (List.mem_cons_of_mem _ hq))).mono ?_ (by simp)
    rw [List.length_cons, Nat.add_mul]
    omega
theorem Pp.sm {R : List (List (Nat × Nat))} (h : Pp R) : SmL (R.length * 3001) 2 (pyl R) := smRows fun w hw => ⟨(h.p w hw).2, h.n w hw⟩
theorem noD_row : ∀ {w : List (Nat × Nat)}, PyData.hasDictAll (w.map pyP) = false
  | [] => rfl
  | p :: w => by rw [List.map_cons, PyData.hasDictAll, noD_row (w := w)]; rfl
theorem noD_rows : ∀ {R : List (List (Nat × Nat))}, PyData.hasDictAll (pyl R) = false
  | [] => rfl
  | w :: R => by
    show PyData.hasDictAll (.list (w.map pyP) :: pyl R) = false
    rw [PyData.hasDictAll, noD_rows (R := R), PyData.hasDict, noD_row]; rfl
theorem noD_app : ∀ {l k : List PyData}, PyData.hasDictAll (l ++ k) = (PyData.hasDictAll l || PyData.hasDictAll k)
  | [], k => by simp [PyData.hasDictAll]
  | x :: l, k => by rw [List.cons_append, PyData.hasDictAll, PyData.hasDictAll, noD_app (l := l), Bool.or_assoc]
section
variable {A B : Hs} {R S : List (List (Nat × Nat))} {W d : D} {P : PyData} {p q k : Nat} {rs ss : List Nat} {l : List D}
theorem orepr_of {n m : Nat} (h : pyA B 40 d = some P) (hd : P.hasDict = false) (hs : SmP n m P) (hn : n ≤ 1000000) (hm : m ≤ 40) : oRepr d B = .ok (.str P.shown) B := by
  have e : SM.pyR B d = some P := by
    unfold SM.pyR
    rw [h]
    simp only [hd, Bool.false_eq_true, if_false]
  have d1 := hs.d
  unfold oRepr
  rw [e]
  simp only
  rw [if_pos ⟨hs.s, by omega, hs.fits hn⟩]
theorem eqX_py {Q : PyData} (h : pyA B 40 W = some P) (k : pyA B 40 d = some Q) : oEqX W d B = .ok (.bl (PyData.eqv P Q)) B := by
  have e : dlB B W d = false := by
    unfold dlB
    split
    · split
      · rename_i i j _ _ q1 q2
        unfold pyA at h
        rw [q1] at h
        cases h
      · rfl
    · rfl
  rw [eqX_no e]
  refine eqA_of ?_
  unfold eqA
  rw [h, k]
/-- no list at all -/
theorem vw_flat (h : ∀ B, Fr [] A B → oIsi os_ xs_ tb_ W (.ty "list") B = .ok (.bl false) B) (k : ∀ B p rs, Fr [] A B → IsPp B p rs R → oEqX W (.ref p) B = .ok (.bl false) B) : Vw A R W false :=
  ⟨fun B f => ⟨false, B, formed_no (h B f), .refl, fun _ => rfl, fun h => by cases h⟩, fun B p rs f g => .inl ⟨k B p rs f g, rfl⟩⟩
/-- a list of no right form, that is no such list either, or shows otherwise -/
theorem vw_bad (h : ∀ B, Fr [] A B → ∃ B1, F_is_formed [W] B = .ok (.bl false) B1 ∧ Fr [] B B1) (hP : ∀ B, Fr [] A B → pyA B 40 W = some P)
    (k : PyData.eqv P (pyR R) = false ∨ (P.hasDict = false ∧ SmP 1000000 40 P ∧ P.shown.length ≠ (pyR R).shown.length)) (hR : Pp R) : Vw A R W false := by
  refine ⟨fun B f => ?_, fun B p rs f g => ?_⟩
  · obtain ⟨B1, e, f1⟩ := h B f
    exact ⟨false, B1, e, f1, fun _ => rfl, fun h => by cases h⟩
  · have e := eqX_py (hP B f) g.py
    cases c : PyData.eqv P (pyR R) with
    | false => rw [c] at e; exact .inl ⟨e, rfl⟩
    | true =>
      rw [c] at e
      rcases k with k | ⟨k1, k2, k3⟩
      · rw [c] at k; cases k
      · have sR : SmP (R.length * 3001) 3 (pyR R) := hR.sm.lst
        refine .inr ⟨e, _, _, orepr_of (hP B f) k1 k2 (by decide) (by decide), orepr_of g.py ?_ sR ?_ (by decide), ?_⟩
        · show PyData.hasDict (.list (pyl R)) = false
          rw [PyData.hasDict]
          exact noD_rows
        · have := hR.l
          have : R.length * 3001 ≤ 254 * 3001 := Nat.mul_le_mul_right _ this
          omega
        · rw [decide_eq_false_iff_not]
          intro e
          exact k3 (by rw [e])
theorem frPp (h : IsPp A p rs R) (f : Fr [] A B) : IsPp B p rs R := h.frm f (by simp) (by simp)
/-- a list of rows of pairs -/
theorem vw_pp (h : IsPp A q ss S) (hl : ss.length ≤ 1000) (hS : ∀ w ∈ S, w.length ≤ 1000000) (hR : Pp R) : ∃ v, Vw A R (.ref q) v := by
  refine ⟨decide (S = R), fun B f => ?_, fun B p rs f g => ?_⟩
  · obtain ⟨B1, e, f1⟩ := is_formed_ok (frPp h f) hl hS
    exact ⟨true, B1, e, f1, fun h => (by cases h), fun _ C p rs fC g => eqA_of (eqA_pp (frPp h fC) g)⟩
  · have hB := frPp h f
    have e := eqX_py hB.py g.py
    rw [eqv_pyR] at e
    by_cases c : S = R
    · subst c
      have sR : SmP (S.length * 3001) 3 (pyR S) := hR.sm.lst
      have nd : (pyR S).hasDict = false := by
        show PyData.hasDict (.list (pyl S)) = false
        rw [PyData.hasDict]
        exact noD_rows
      have le : S.length * 3001 ≤ 1000000 := by
        have := hR.l
        have : S.length * 3001 ≤ 254 * 3001 := Nat.mul_le_mul_right _ this
        omega
      rw [decide_eq_true rfl] at e
      exact .inr ⟨e, _, _, orepr_of hB.py nd sR le (by decide), orepr_of g.py nd sR le (by decide), by simp⟩
    · rw [decide_eq_false c] at e
      exact .inl ⟨e, decide_eq_false c⟩
/-- row at k is another thing -/
theorem py_mid {X Y : List Nat} {x : D} {Px : PyData} {R1 R2 : List (List (Nat × Nat))} {n : Nat} (h1 : X.length = R1.length) (h2 : Y.length = R2.length) (k1 : ∀ (i : Nat) (r : Nat) (w : List (Nat × Nat)), X[i]? = some r → R1[i]? = some w → IsRow A r w)
    (k2 : ∀ (i : Nat) (r : Nat) (w : List (Nat × Nat)), Y[i]? = some r → R2[i]? = some w → IsRow A r w) (hx : pyA A (n + 3) x = some Px) : allSome ((X.map D.ref ++ x :: Y.map D.ref).map (pyA A (n + 3))) = some (pyl R1 ++ Px :: pyl R2) := by
  have e1 := py_rows (A := A) (n := n) h1 k1
  have e2 := py_rows (A := A) (n := n) h2 k2
  have app : ∀ {a b : List (Option PyData)} {p q : List PyData}, allSome a = some p → allSome b = some q → allSome (a ++ b) = some (p ++ q) := by
    intro a
    induction a with
    | nil => intro b p q ha hb; cases ha; simpa using hb
    | cons o a ih =>
      intro b p q ha hb
      cases o with
      | none => cases ha
      | some y =>
        unfold allSome at ha
        obtain ⟨p', hp, rfl⟩ := Option.map_eq_some_iff.mp ha
        rw [List.cons_append, allSome, ih hp hb]
        rfl
  rw [List.map_append, List.map_cons]
  refine app e1 ?_
  rw [hx, allSome, e2]
  rfl
end

/-! a paper with one row another -/
theorem split_at {α : Type} {l : List α} {i : Nat} {x : α} (h : l[i]? = some x) : l = l.take i ++ x :: l.drop (i + 1) := by
  obtain ⟨h1, h2⟩ := List.getElem?_eq_some_iff.mp h
  rw [← h2, ← List.drop_eq_getElem_cons h1, List.take_append_drop]
theorem allSome_app {α : Type} : ∀ {a b : List (Option α)} {p q : List α}, allSome a = some p → allSome b = some q → allSome (a ++ b) = some (p ++ q)
  | [], b, p, q, ha, hb => by cases ha; simpa using hb
  | none :: a, b, p, q, ha, hb => by cases ha
  | some y :: a, b, p, q, ha, hb => by
    unfold allSome at ha
    obtain ⟨p', hp, rfl⟩ := Option.map_eq_some_iff.mp ha
    rw [List.cons_append, allSome, allSome_app hp hb]
    rfl
section
variable {A B : Hs} {R : List (List (Nat × Nat))} {w w' : List (Nat × Nat)} {pr : Nat × Nat} {x d : D} {Px : PyData} {p0 q r at_ pl : Nat} {rs : List Nat}
/-- what stands in the place of row w, of which pr is the pair at pl -/
inductive Rw (A : Hs) (w : List (Nat × Nat)) (pl : Nat) (pr : Nat × Nat) : D → Prop
  | row {r : Nat} {w' : List (Nat × Nat)} : IsRow A r w' → w'.length ≤ 2000 → Rw A w pl pr (.ref r)
  | bad {r : Nat} {x : D} {Px : PyData} : A[r]? = some (.lst ((w.take pl).map prD ++ x :: (w.drop (pl + 1)).map prD)) → Pq A x false → (∀ B, Fr [] A B → ∀ n, pyA B (n + 2) x = some Px) → SmP 10 2 Px → Px.hasDict = false →
      (PyData.eqv Px (pyP pr) = false ∨ Px.shown.length ≠ (pyP pr).shown.length) → Rw A w pl pr (.ref r)
  | tup : Rw A w pl pr (.tup (w.map prD))
theorem Rw.frame {d : D} (h : Rw A w pl pr d) (f : Fr [] A B) : Rw B w pl pr d := by
  cases h with
  | row h1 h2 => exact .row (f.get h1 (by simp)) h2
  | bad h1 h2 h3 h4 h5 h6 => exact .bad (f.get h1 (by simp)) (h2.frame f) (fun C g => h3 C (f.trans g)) h4 h5 h6
  | tup => exact .tup
theorem pyl_split (hw : R[at_]? = some w) : pyl R = pyl (R.take at_) ++ .list (w.map pyP) :: pyl (R.drop (at_ + 1)) := by
  have e := split_at hw
  conv => lhs; rw [e]
  simp [pyl]
theorem row_split (hz : w[pl]? = some pr) : w.map pyP = (w.take pl).map pyP ++ pyP pr :: (w.drop (pl + 1)).map pyP := by
  have e := split_at hz
  conv => lhs; rw [e]
  simp
theorem rows_of (h : IsPp A p0 rs R) : (∀ (i r : Nat) (w : List (Nat × Nat)), (rs.take at_)[i]? = some r → (R.take at_)[i]? = some w → IsRow A r w) ∧ ∀ (i r : Nat) (w : List (Nat × Nat)), (rs.drop (at_ + 1))[i]? = some r → (R.drop (at_ + 1))[i]? = some w → IsRow A r w := by
  refine ⟨fun i r w h1 h2 => ?_, fun i r w h1 h2 => ?_⟩
  · rw [List.getElem?_take] at h1 h2
    split at h1
    · rename_i c
      rw [if_pos c] at h2
      exact h.r i r w h1 h2
    · cases h1
  · rw [List.getElem?_drop] at h1 h2
    exact h.r _ r w h1 h2
theorem eqv_refl_pyl {R : List (List (Nat × Nat))} : PyData.eqvAll (pyl R) (pyl R) = true := eqv_pyl R
/-- the whole paper, the row replaced -/
theorem vw_rw {d : D} (h : IsPp A p0 rs R) (hR : Pp R) (hw : R[at_]? = some w) (hz : w[pl]? = some pr) (hd : Rw A w pl pr d) (hq : A[q]? = some (.lst ((rs.take at_).map D.ref ++ d :: (rs.drop (at_ + 1)).map D.ref))) : ∃ v, Vw A R (.ref q) v := by
  have hat : at_ < R.length := (List.getElem?_eq_some_iff.mp hw).1
  have hrs : rs.length ≤ 254 := by rw [h.l]; exact hR.l
  have l1 : (rs.take at_).length = (R.take at_).length := by rw [List.length_take, List.length_take, h.l]
  have l2 : (rs.drop (at_ + 1)).length = (R.drop (at_ + 1)).length := by rw [List.length_drop, List.length_drop, h.l]
  have lt : (rs.take at_).length = at_ := by rw [List.length_take, h.l]; omega
  have isr : ∀ {r}, r ∈ rs.take at_ ∨ r ∈ rs.drop (at_ + 1) → ∃ u ∈ R, IsRow A r u := fun {r} hr => by
    have : r ∈ rs := hr.elim List.mem_of_mem_take List.mem_of_mem_drop
    obtain ⟨i, hi⟩ := List.getElem?_of_mem this
    have li : i < R.length := by rw [← h.l]; exact (List.getElem?_eq_some_iff.mp hi).1
    exact ⟨R[i], List.getElem_mem li, h.r i r _ hi (List.getElem?_eq_getElem li)⟩
  obtain ⟨k1, k2⟩ := rows_of (at_ := at_) h
  have pyB : ∀ {B Px}, Fr [] A B → pyA B 39 d = some Px → pyA B 40 (.ref q) = some (.list (pyl (R.take at_) ++ Px :: pyl (R.drop (at_ + 1)))) := fun {B Px} f hx => by
    rw [py_lst (f.get hq (by simp))]
    have := py_mid (A := B) (n := 36) (X := rs.take at_) (Y := rs.drop (at_ + 1)) (x := d) (Px := Px) l1 l2 (fun i r w h1 h2 => f.get (k1 i r w h1 h2) (by simp)) (fun i r w h1 h2 => f.get (k2 i r w h1 h2) (by simp)) hx
    rw [this]
    rfl
  have smT : SmL (R.length * 3001) 2 (pyl (R.take at_)) := (smRows fun w hw => ⟨(hR.p w (List.mem_of_mem_take hw)).2, hR.n w (List.mem_of_mem_take hw)⟩).mono (Nat.mul_le_mul_right 3001 (by rw [List.length_take]; omega)) (by decide)
  have smD : SmL (R.length * 3001) 2 (pyl (R.drop (at_ + 1))) := (smRows fun w hw => ⟨(hR.p w (List.mem_of_mem_drop hw)).2, hR.n w (List.mem_of_mem_drop hw)⟩).mono (Nat.mul_le_mul_right 3001 (by rw [List.length_drop]; omega)) (by decide)
  cases hd with
  | @row r w' h1 h2 =>
    have hpp : IsPp A q (rs.take at_ ++ r :: rs.drop (at_ + 1)) (R.take at_ ++ w' :: R.drop (at_ + 1)) := by
      refine ⟨by rw [hq]; simp, by simp only [List.length_append, List.length_cons]; rw [l1, l2], fun i s u e1 e2 => ?_⟩
      by_cases c : i < at_
      · rw [List.getElem?_append_left (by omega)] at e1
        rw [List.getElem?_append_left (by omega)] at e2
        exact k1 i s u e1 e2
      · rw [List.getElem?_append_right (by omega)] at e1
        rw [List.getElem?_append_right (by omega), ← l1] at e2
        rw [lt] at e1 e2
        by_cases c2 : i - at_ = 0
        · rw [c2] at e1 e2
          simp only [List.getElem?_cons_zero, Option.some.injEq] at e1 e2
          subst e1 e2
          exact h1
        · have e3 : i - at_ = (i - at_ - 1) + 1 := by omega
          rw [e3, List.getElem?_cons_succ] at e1 e2
          exact k2 _ s u e1 e2
    refine vw_pp hpp (by simp only [List.length_append, List.length_cons, List.length_take, List.length_drop]; omega) (fun u hu => ?_) hR
    simp only [List.mem_append, List.mem_cons] at hu
    rcases hu with hu | rfl | hu
    · have := (hR.p u (List.mem_of_mem_take hu)).2; omega
    · omega
    · have := (hR.p u (List.mem_of_mem_drop hu)).2; omega
  | tup =>
    have hx : ∀ B, pyA B 39 (.tup (w.map prD)) = some (.tuple (w.map pyP)) := fun B => by
      unfold pyA
      rw [py_row (n := 36)]
      rfl
    refine ⟨false, vw_bad (P := .list (pyl (R.take at_) ++ .tuple (w.map pyP) :: pyl (R.drop (at_ + 1)))) (fun B f => ?_) (fun B f => pyB f (hx B)) (.inl ?_) hR⟩
    · refine formed_row (k := at_) (d := .tup (w.map prD)) (f.get hq (by simp)) (by simp; omega) ?_ rfl ?_
      · rw [List.getElem?_append_right (by simp; omega)]
        simp [h.l]
        have : at_ - min at_ R.length = 0 := by omega
        rw [this]; rfl
      · intro e he
        simp only [List.mem_append, List.mem_cons, List.mem_map] at he
        rcases he with ⟨s, hs, rfl⟩ | rfl | ⟨s, hs, rfl⟩
        · obtain ⟨u, _, hu⟩ := isr (.inl hs)
          exact ⟨true, isl_l (f.get hu (by simp))⟩
        · exact ⟨false, rfl⟩
        · obtain ⟨u, _, hu⟩ := isr (.inr hs)
          exact ⟨true, isl_l (f.get hu (by simp))⟩
    · show PyData.eqv _ (.list (pyl R)) = false
      rw [pyl_split hw, PyData.eqv, eqv_mid eqv_refl_pyl eqv_refl_pyl]
      simp [PyData.eqv]
  | @bad r x Px h1 h2 h3 h4 h5 h6 =>
    have smt : SmL 3000 2 ((w.take pl).map pyP) := (smRow fun p hp => hR.n w (List.mem_of_getElem? hw) p (List.mem_of_mem_take hp)).mono (by have := (hR.p w (List.mem_of_getElem? hw)).2; rw [List.length_take]; omega) (by decide)
    have smd : SmL 3000 2 ((w.drop (pl + 1)).map pyP) := (smRow fun p hp => hR.n w (List.mem_of_getElem? hw) p (List.mem_of_mem_drop hp)).mono (by have := (hR.p w (List.mem_of_getElem? hw)).2; rw [List.length_drop]; omega) (by decide)
    have hx : ∀ B, Fr [] A B → pyA B 39 (.ref r) = some (.list ((w.take pl).map pyP ++ Px :: (w.drop (pl + 1)).map pyP)) := fun B f => by
      rw [py_lst (f.get h1 (by simp)), List.map_append, List.map_cons]
      rw [allSome_app (py_row (n := 36)) (q := Px :: (w.drop (pl + 1)).map pyP) ?_]
      · rfl
      · rw [h3 B f 36, allSome, py_row (n := 36)]; rfl
    have eqe : PyData.eqv (.list (pyl (R.take at_) ++ .list ((w.take pl).map pyP ++ Px :: (w.drop (pl + 1)).map pyP) :: pyl (R.drop (at_ + 1)))) (pyR R) = PyData.eqv Px (pyP pr) := by
      show PyData.eqv _ (.list (pyl R)) = _
      rw [pyl_split hw, PyData.eqv, eqv_mid eqv_refl_pyl eqv_refl_pyl, PyData.eqv, row_split hz, eqv_mid (eqv_pys _) (eqv_pys _)]
    refine ⟨false, vw_bad (P := .list (pyl (R.take at_) ++ .list ((w.take pl).map pyP ++ Px :: (w.drop (pl + 1)).map pyP) :: pyl (R.drop (at_ + 1)))) (fun B f => ?_) (fun B f => pyB f (hx B f)) ?_ hR⟩
    · refine formed_pair (rs := rs.take at_ ++ r :: rs.drop (at_ + 1)) (k := at_) (by rw [f.get hq (by simp)]; simp) (by simp only [List.length_append, List.length_cons, List.length_take, List.length_drop]; omega) ?_ ?_
      · intro s hs
        simp only [List.mem_append, List.mem_cons] at hs
        have old : s ∈ rs.take at_ ∨ s ∈ rs.drop (at_ + 1) → ∃ l, B[s]? = some (.lst l) ∧ l.length ≤ 1000000 ∧ ∀ d ∈ l, ∃ c, Pq B d c := fun hs => by
          obtain ⟨u, hu, hr⟩ := isr hs
          refine ⟨_, f.get hr (by simp), by have := (hR.p u hu).2; rw [List.length_map]; omega, fun e he => ?_⟩
          obtain ⟨p, _, rfl⟩ := List.mem_map.mp he
          exact ⟨true, pq_pr⟩
        rcases hs with hs | rfl | hs
        · exact old (.inl hs)
        · refine ⟨_, f.get h1 (by simp), ?_, fun e he => ?_⟩
          · have := (hR.p w (List.mem_of_getElem? hw)).2
            simp only [List.length_append, List.length_cons, List.length_map, List.length_take, List.length_drop]
            omega
          · simp only [List.mem_append, List.mem_cons, List.mem_map] at he
            rcases he with ⟨p, _, rfl⟩ | rfl | ⟨p, _, rfl⟩
            · exact ⟨true, pq_pr⟩
            · exact ⟨false, h2.frame f⟩
            · exact ⟨true, pq_pr⟩
        · exact old (.inr hs)
      · refine ⟨r, _, ?_, f.get h1 (by simp), x, by simp, h2.frame f⟩
        rw [List.getElem?_append_right (by omega), lt]
        simp
    · rcases h6 with h6 | h6
      · exact .inl (by rw [eqe, h6])
      · refine .inr ⟨?_, ?_, ?_⟩
        · rw [PyData.hasDict, noD_app, PyData.hasDictAll, noD_rows, noD_rows, PyData.hasDict, noD_app, PyData.hasDictAll, noD_row, noD_row, h5]
          rfl
        · have srow : SmP 7000 3 (.list ((w.take pl).map pyP ++ Px :: (w.drop (pl + 1)).map pyP)) := ((smt.app (SmL.cons h4 smd)).lst).mono (by decide) (by decide)
          have le : R.length * 3001 ≤ 254 * 3001 := Nat.mul_le_mul_right _ hR.l
          have smT' : SmL (at_ * 3001) 2 (pyl (R.take at_)) := (smRows fun w hw => ⟨(hR.p w (List.mem_of_mem_take hw)).2, hR.n w (List.mem_of_mem_take hw)⟩).mono (Nat.mul_le_mul_right 3001 (by rw [List.length_take]; omega)) (by decide)
          have smD' : SmL ((R.length - (at_ + 1)) * 3001) 2 (pyl (R.drop (at_ + 1))) := (smRows fun w hw => ⟨(hR.p w (List.mem_of_mem_drop hw)).2, hR.n w (List.mem_of_mem_drop hw)⟩).mono (Nat.mul_le_mul_right 3001 (by rw [List.length_drop]; omega)) (by decide)
          exact ((smT'.app (SmL.cons srow smD')).lst).mono (by omega) (by decide)
        · show _ ≠ (PyData.list (pyl R)).shown.length
          rw [pyl_split hw]
          refine shown_mid ?_
          rw [row_split hz]
          exact shown_mid h6
end

noncomputable def spR : S := (sRet (eOp oAdd (eOp oAdd (eSl oSl (eVar 0) oNo (oSo (eVar 3))) (eLst (aCons (eVar 5) aNil))) (eSl oSl (eVar 0) (oSo (eOp oAdd (eVar 3) (eC (.int 1)))) oNo)))
noncomputable def spZ : S := (sRet (eOp oIx (eLst (aCons (eC .non) (aCons (eTup aNil) (aCons (eDNew false) (aCons (eC (dS "right")) (aCons (eC (.int 7)) (aCons (eLst (aCons (eLst aNil) aNil)) (aCons (eLst (aCons (eC .non) aNil)) (aCons (eLst (aCons (eVar 0) aNil)) aNil))))))))) (eOp oMod (eOp oDiv (eVar 1) (eC (.int 50))) (eC (.int 8)))))
noncomputable def spK : S := (sIf (tOf (eOp oLt (eVar 2) (eC (.int 7)))) (sSet 5 (eOp oAdd (eOp oAdd (eSl oSl (eVar 5) oNo (oSo (eVar 4))) (eLst (aCons (eOp oIx (eVar 8) (eOp oSub (eVar 2) (eC (.int 1)))) aNil))) (eSl oSl (eVar 5) (oSo (eOp oAdd (eVar 4) (eC (.int 1)))) oNo))) (sIf (tOf (eOp oEq (eVar 2) (eC (.int 7)))) (sSet 5 (eOp oAdd (eSl oSl (eVar 5) oNo (oSo (eVar 4))) (eSl oSl (eVar 5) (oSo (eOp oAdd (eVar 4) (eC (.int 1)))) oNo))) (sIf (tOf (eOp oEq (eVar 2) (eC (.int 8)))) (sSet 5 (eCB (c1 oTuple) (aCons (eVar 5) aNil))) (sIf (tOf (eOp oEq (eVar 2) (eC (.int 9)))) (sSet 5 (eOp oAdd (eVar 5) (eSl oSl (eVar 5) (oSo (eVar 4)) (oSo (eOp oAdd (eVar 4) (eC (.int 1))))))) (sSet 5 (eOp oAdd (eOp oAdd (eSl oSl (eVar 5) oNo (oSo (eVar 4))) (eLst (aCons (eTup (aCons (eIf (tOf (eOp oGt (eVar 6) (eC (.int 1)))) (eVar 6) (eOp oEq (eVar 6) (eC (.int 1)))) (aCons (eIf (tOf (eOp oGt (eVar 7) (eC (.int 1)))) (eVar 7) (eOp oEq (eVar 7) (eC (.int 1)))) aNil))) aNil))) (eSl oSl (eVar 5) (oSo (eOp oAdd (eVar 4) (eC (.int 1)))) oNo)))))))
theorem spoilt_eq : F_l_spoilt = mkFn 2 9 (sSeq (sAsg (eCall F_l_digits (aCons (eVar 1) (aCons (eLst (aCons (eC (.int 11)) (aCons (eCB (c2 oMax2) (aCons (eC (.int 1)) (aCons (eCB (c1 oLen) (aCons (eVar 0) aNil)) aNil))) (aCons (eC (.int 5)) aNil)))) aNil))) (gL [(gN 2), (gN 3), (gN 4)])) (sSeq (sIf (tOo (tOf (eOp oEq (eVar 2) (eC (.int 0)))) (tOf (eOp oEq (eVar 0) (eLst aNil)))) spZ sNx) (sSeq (sSet 5 (eOp oIx (eVar 0) (eVar 3))) (sSeq (sSet 4 (eOp oMod (eVar 4) (eCB (c1 oLen) (aCons (eVar 5) aNil)))) (sSeq (sAsg (eOp oIx (eVar 5) (eVar 4)) (gT [(gN 6), (gN 7)])) (sSeq (sSet 8 (eLst (aCons (eTup (aCons (eOp oAdd (eVar 6) (eC (.int 1))) (aCons (eVar 7) aNil))) (aCons (eTup (aCons (eVar 6) (aCons (eOp oAdd (eVar 7) (eC (.int 1))) aNil))) (aCons (eTup (aCons (eVar 6) (aCons (eVar 7) (aCons (eC (.int 0)) aNil)))) (aCons (eLst (aCons (eVar 6) (aCons (eVar 7) aNil))) (aCons (eTup (aCons (eVar 6) (aCons (eC .non) aNil))) (aCons (eTup (aCons (eC (dS "0")) (aCons (eVar 7) aNil))) aNil)))))))) (sSeq spK spR))))))) := rfl
/-! a paper spoilt -/
def RtP (r : RS) (P : D → Hs → Prop) : Prop := match r with
  | .rt d A => P d A
  | _ => False
theorem RtP.call {r : RS} {P : D → Hs → Prop} (Q : RS → Prop) (h : RtP r P) (k : ∀ d A, P d A → Q (.rt d A)) : Q r := by
  cases r with
  | rt d A => exact k d A h
  | _ => exact h.elim
theorem gA {A L : Hs} {k : Nat} : (A ++ L)[A.length + k]? = L[k]? := by
  rw [List.getElem?_append_right (by omega)]
  congr 1
  omega
theorem fr_pushes {s : List Nat} {B L : Hs} : Fr s B (B ++ L) := ⟨by simp, fun j hj _ => List.getElem?_append_left hj⟩
def cnD (n : Nat) : D := if 1 < n then .int (n : Nat) else .bl (decide (n = 1))
def cnP (n : Nat) : PyData := if 1 < n then .int (n : Nat) else .bool (decide (n = 1))
theorem cn_sc {n : Nat} : Sc (cnD n) := by unfold cnD; split; exact .int _; exact .bl _
theorem cn_len {n : Nat} (h : ¬ 1 < n) : (PyData.int (n : Nat)).shown.length + 3 ≤ (cnP n).shown.length := by
  unfold cnP
  rw [if_neg h]
  rcases (by omega : n = 0 ∨ n = 1) with rfl | rfl <;> decide
section
variable {A B : Hs} {R : List (List (Nat × Nat))} {w : List (Nat × Nat)} {l t p0 q r o8 n8 : Nat} {rs : List Nat} {c kind at_ pl odd : Int} {o1 o2 o3 o4 o5 o6 o7 o9 : Option D}
theorem py_2 {a b : D} {P Q : PyData} (ha : ∀ B : Hs, ∀ n, pyA B n a = some P) (hb : ∀ B : Hs, ∀ n, pyA B n b = some Q) : ∀ B : Hs, ∀ n, pyA B (n + 2) (.tup [a, b]) = some (.tuple [P, Q]) := fun B n => by
  unfold pyA
  simp only [List.map_cons, List.map_nil, ha, hb]
  rfl
theorem py_i {n : Int} : ∀ B : Hs, ∀ k, pyA B k (.int n) = some (.int n) := fun B k => by cases k <;> rfl
theorem py_n : ∀ B : Hs, ∀ k, pyA B k .non = some .none := fun B k => by cases k <;> rfl
theorem py_s {z : Str} : ∀ B : Hs, ∀ k, pyA B k (.str z) = some (.str z) := fun B k => by cases k <;> rfl
theorem py_cn {m : Nat} : ∀ B : Hs, ∀ k, pyA B k (cnD m) = some (cnP m) := fun B k => by unfold cnD cnP; split <;> cases k <;> rfl
theorem sm_cn {m : Nat} (h : m ≤ 1001) : SmP 0 0 (cnP m) := by
  unfold cnP
  split
  · exact SmP.int (by omega)
  · exact SmP.bl
theorem sm_i {m : Nat} (h : m ≤ 1001) : SmP 0 0 (.int (m : Nat)) := SmP.int (by omega)
theorem sm_2 {a b : PyData} {n m : Nat} (ha : SmP n 0 a) (hb : SmP m 0 b) (h : n + m ≤ 5) : SmP 10 2 (.tuple [a, b]) := (SmL.cons ha (SmL.cons hb .nil)).tup.mono (by omega) (by decide)
theorem spK_ok (hr : IsRow A r w) (hw : w.length ≤ 1000) (hz : w[pl.toNat]? = some (l, t)) (hp : 0 ≤ pl ∧ pl < w.length) (hs : l ≤ 1000 ∧ t ≤ 1000) (hk : 1 ≤ kind ∧ kind < 11) (h8 : A[n8]? = some (.lst [.int (l : Nat), .int (t : Nat)]))
    (ho : A[o8]? = some (.lst [.tup [.int ((l : Nat) + 1), .int (t : Nat)], .tup [.int (l : Nat), .int ((t : Nat) + 1)], .tup [.int (l : Nat), .int (t : Nat), .int 0], .ref n8, .tup [.int (l : Nat), .non], .tup [dS "0", .int (t : Nat)]])) :
    Nx (spK [o1, o2, some (.int kind), o3, some (.int pl), some (.ref r), some (.int (l : Nat)), some (.int (t : Nat)), some (.ref o8)] A) fun en A1 => ∃ d, en = [o1, o2, some (.int kind), o3, some (.int pl), some d, some (.int (l : Nat)), some (.int (t : Nat)), some (.ref o8)] ∧ Rw A1 w pl.toNat (l, t) d ∧ Fr [] A A1 := by
  unfold IsRow at hr
  have hpl := hp.1
  have p1 : (pl + 1).toNat = pl.toNat + 1 := by omega
  have lT : (List.take pl.toNat (w.map prD)).length ≤ 1000 := by rw [List.length_take, List.length_map]; omega
  have lD : (List.drop (pl + 1).toNat (w.map prD)).length ≤ 1000 := by rw [List.length_drop, List.length_map]; omega
  have lW : (w.map prD).length ≤ 1000 := by rw [List.length_map]; exact hw
  have hpr : prD (l, t) = .tup [.int (l : Nat), .int (t : Nat)] := rfl
  have fp : ∀ M : Hs, Fr [] A (A ++ M) := fun M => fr_pushes
  have hrp : ∀ M : Hs, (A ++ M)[r]? = some (.lst (w.map prD)) := fun M => (fp M).get hr (by simp)
  have g4 : ∀ {x : D} {B : Hs}, B = A ++ [O.lst (List.take pl.toNat (w.map prD)), .lst [x], .lst (List.take pl.toNat (w.map prD) ++ [x]), .lst (List.drop (pl + 1).toNat (w.map prD)), .lst (List.take pl.toNat (w.map prD) ++ x :: List.drop (pl + 1).toNat (w.map prD))] → B[A.length + 4]? = some (.lst ((w.take pl.toNat).map prD ++ x :: (w.drop (pl.toNat + 1)).map prD)) := fun {x B} hB => by
    rw [hB, gA, p1, List.map_take, List.map_drop]; rfl
  have good : ∀ {a b : Nat} {B : Hs}, B = A ++ [O.lst (List.take pl.toNat (w.map prD)), .lst [.tup [.int (a : Nat), .int (b : Nat)]], .lst (List.take pl.toNat (w.map prD) ++ [.tup [.int (a : Nat), .int (b : Nat)]]), .lst (List.drop (pl + 1).toNat (w.map prD)), .lst (List.take pl.toNat (w.map prD) ++ .tup [.int (a : Nat), .int (b : Nat)] :: List.drop (pl + 1).toNat (w.map prD))] → Rw B w pl.toNat (l, t) (.ref (A.length + 4)) := fun {a b B} hB => by
    refine .row (w' := w.take pl.toNat ++ (a, b) :: w.drop (pl.toNat + 1)) ?_ (by simp only [List.length_append, List.length_cons, List.length_take, List.length_drop]; omega)
    unfold IsRow
    rw [g4 hB]
    simp [prD]
  have key : ∀ {x : D}, (∀ B : Hs, B = A ++ [O.lst (List.take pl.toNat (w.map prD)), .lst [x], .lst (List.take pl.toNat (w.map prD) ++ [x]), .lst (List.drop (pl + 1).toNat (w.map prD)), .lst (List.take pl.toNat (w.map prD) ++ x :: List.drop (pl + 1).toNat (w.map prD))] → Rw B w pl.toNat (l, t) (.ref (A.length + 4))) →
      ∀ en B, (en = [o1, o2, some (.int kind), o3, some (.int pl), some (.ref (A.length + 1 + 1 + 1 + 1)), some (.int (l : Nat)), some (.int (t : Nat)), some (.ref o8)] ∧ B = A ++ [O.lst (List.take pl.toNat (w.map prD))] ++ [O.lst [x]] ++ [O.lst (List.take pl.toNat (w.map prD) ++ [x])] ++ [O.lst (List.drop (pl + 1).toNat (w.map prD))] ++ [O.lst (List.take pl.toNat (w.map prD) ++ [x] ++ List.drop (pl + 1).toNat (w.map prD))]) →
      ∃ d, en = [o1, o2, some (.int kind), o3, some (.int pl), some d, some (.int (l : Nat)), some (.int (t : Nat)), some (.ref o8)] ∧ Rw B w pl.toNat (l, t) d ∧ Fr [] A B := by
    rintro x hx en B ⟨rfl, hB⟩
    have hB' : B = A ++ [O.lst (List.take pl.toNat (w.map prD)), .lst [x], .lst (List.take pl.toNat (w.map prD) ++ [x]), .lst (List.drop (pl + 1).toNat (w.map prD)), .lst (List.take pl.toNat (w.map prD) ++ x :: List.drop (pl + 1).toNat (w.map prD))] := by
      rw [hB]; simp
    exact ⟨_, rfl, hx B hB', by rw [hB']; exact fp _⟩
  have bad : ∀ {x : D} {Px : PyData}, (∀ A, Pq A x false) → (∀ B : Hs, ∀ n, pyA B (n + 2) x = some Px) → SmP 10 2 Px → Px.hasDict = false → (PyData.eqv Px (pyP (l, t)) = false ∨ Px.shown.length ≠ (pyP (l, t)).shown.length) → ∀ B : Hs, B = A ++ [O.lst (List.take pl.toNat (w.map prD)), .lst [x], .lst (List.take pl.toNat (w.map prD) ++ [x]), .lst (List.drop (pl + 1).toNat (w.map prD)), .lst (List.take pl.toNat (w.map prD) ++ x :: List.drop (pl + 1).toNat (w.map prD))] → Rw B w pl.toNat (l, t) (.ref (A.length + 4)) :=
    fun h1 h2 h3 h4 h5 B hB => .bad (g4 hB) (h1 B) (fun C _ => h2 C) h3 h4 h5
  have lr := lt_of_get hr
  have lo := lt_of_get ho
  have ln := lt_of_get h8
  have kd : kind = 1 ∨ kind = 2 ∨ kind = 3 ∨ kind = 4 ∨ kind = 5 ∨ kind = 6 ∨ kind = 7 ∨ kind = 8 ∨ kind = 9 ∨ kind = 10 := by omega
  unfold spK
  rcases kd with rfl | rfl | rfl | rfl | rfl | rfl | rfl | rfl | rfl | rfl
  · simp_arith [hr, ho]
    exact key (x := .tup [.int ((l : Nat) + 1), .int (t : Nat)]) (fun B hB => good (a := l + 1) (b := t) hB) _ _ ⟨rfl, rfl⟩
  · simp_arith [hr, ho]
    exact key (x := .tup [.int (l : Nat), .int ((t : Nat) + 1)]) (fun B hB => good (a := l) (b := t + 1) hB) _ _ ⟨rfl, rfl⟩
  · simp_arith [hr, ho]
    refine key (x := .tup [.int (l : Nat), .int (t : Nat), .int 0]) (bad (Px := .tuple [.int (l : Nat), .int (t : Nat), .int 0]) (fun _ => pq_3) (fun B n => ?_) ((SmL.cons (sm_i (by omega)) (SmL.cons (sm_i (by omega)) (SmL.cons (SmP.int (i := 0) (by decide)) .nil))).tup.mono (by decide) (by decide)) rfl (.inl ?_)) _ _ ⟨rfl, rfl⟩
    · unfold pyA
      simp only [List.map_cons, List.map_nil, py_i]
      rfl
    · unfold pyP
      simp [PyData.eqv, PyData.eqvAll]
  · simp_arith [hr, ho]
    have hB : ∀ B : Hs, B = A ++ [O.lst (List.take pl.toNat (w.map prD)), .lst [.ref n8], .lst (List.take pl.toNat (w.map prD) ++ [.ref n8]), .lst (List.drop (pl + 1).toNat (w.map prD)), .lst (List.take pl.toNat (w.map prD) ++ .ref n8 :: List.drop (pl + 1).toNat (w.map prD))] → Rw B w pl.toNat (l, t) (.ref (A.length + 4)) := fun B hB => by
      have f : Fr [] A B := by rw [hB]; exact fp _
      have g := f.get h8 (by simp)
      refine .bad (Px := .list [.int (l : Nat), .int (t : Nat)]) (g4 hB) (pq_no fun C h => isi_lt (h.get g (by simp))) (fun C h n => ?_) ((SmL.cons (sm_i (by omega)) (SmL.cons (sm_i (by omega)) .nil)).lst.mono (by decide) (by decide)) rfl (.inl ?_)
      · rw [py_lst (h.get g (by simp))]
        simp only [List.map_cons, List.map_nil, py_i]
        rfl
      · unfold pyP
        simp [PyData.eqv]
    exact key (x := .ref n8) hB _ _ ⟨rfl, rfl⟩
  · simp_arith [hr, ho]
    refine key (x := .tup [.int (l : Nat), .non]) (bad (Px := .tuple [.int (l : Nat), .none]) (fun _ => pq_2 (.int _) .non) (py_2 py_i py_n) (sm_2 (sm_i (by omega)) SmP.non (by decide)) rfl (.inl ?_)) _ _ ⟨rfl, rfl⟩
    unfold pyP
    simp [PyData.eqv, PyData.eqvAll]
  · simp_arith [hr, ho]
    refine key (x := .tup [dS "0", .int (t : Nat)]) (bad (Px := .tuple [.str (fS "0"), .int (t : Nat)]) (fun _ => pq_2 (.str _) (.int _)) (py_2 py_s py_i) (sm_2 (n := 5) (m := 0) ⟨rfl, by decide +kernel, by decide +kernel, by decide⟩ (sm_i (by omega)) (by decide)) rfl (.inl ?_)) _ _ ⟨rfl, rfl⟩
    unfold pyP
    simp [PyData.eqv, PyData.eqvAll]
  · simp_arith [hr]
    refine ⟨_, rfl, .row (w' := w.take pl.toNat ++ w.drop (pl.toNat + 1)) ?_ (by simp only [List.length_append, List.length_take, List.length_drop]; omega), ?_⟩
    · unfold IsRow
      rw [List.getElem?_append_right (by simp)]
      simp [p1, List.map_take, List.map_drop]
    · exact (Fr.push.then_push).then_push
  · simp_arith [hr]
    exact ⟨_, rfl, .tup, .refl⟩
  · simp_arith [hr]
    refine ⟨_, rfl, .row (w' := w ++ (w.drop pl.toNat).take ((pl + 1).toNat - pl.toNat)) ?_ (by simp only [List.length_append, List.length_take, List.length_drop]; omega), ?_⟩
    · unfold IsRow
      rw [List.getElem?_append_right (by simp)]
      simp [List.map_take, List.map_drop]
    · exact Fr.push.then_push
  · have fin : ∀ B : Hs, B = A ++ [O.lst (List.take pl.toNat (w.map prD)), .lst [.tup [cnD l, cnD t]], .lst (List.take pl.toNat (w.map prD) ++ [.tup [cnD l, cnD t]]), .lst (List.drop (pl + 1).toNat (w.map prD)), .lst (List.take pl.toNat (w.map prD) ++ .tup [cnD l, cnD t] :: List.drop (pl + 1).toNat (w.map prD))] → Rw B w pl.toNat (l, t) (.ref (A.length + 4)) := fun B hB => by
      by_cases c : 1 < l ∧ 1 < t
      · have e1 : cnD l = .int (l : Nat) := if_pos c.1
        have e2 : cnD t = .int (t : Nat) := if_pos c.2
        rw [e1, e2] at hB
        exact good hB
      · refine bad (Px := .tuple [cnP l, cnP t]) (fun A => ?_) (py_2 py_cn py_cn) (sm_2 (sm_cn (by omega)) (sm_cn (by omega)) (by decide)) ?_ (.inr ?_) B hB
        · have := pq_2 (A := A) (a := cnD l) (b := cnD t) cn_sc cn_sc
          have e : (wh1 (cnD l) && wh1 (cnD t)) = false := by
            by_cases c1 : 1 < l
            · have c2 : ¬ 1 < t := fun h => c ⟨c1, h⟩
              have : cnD t = .bl (decide (t = 1)) := if_neg c2
              rw [this]
              simp [wh1]
            · have : cnD l = .bl (decide (l = 1)) := if_neg c1
              rw [this]
              simp [wh1]
          rwa [e] at this
        · have nd : ∀ m, (cnP m).hasDict = false := fun m => by unfold cnP; split <;> simp [PyData.hasDict]
          simp [PyData.hasDict, PyData.hasDictAll, nd]
        · unfold pyP
          rw [shown_pair, shown_pair]
          have le : ∀ m, (PyData.int (m : Nat)).shown.length ≤ (cnP m).shown.length := fun m => by
            by_cases h : 1 < m
            · have : cnP m = .int (m : Nat) := if_pos h
              rw [this]
              exact Nat.le_refl _
            · have := cn_len h; omega
          have h1 := le l
          have h2 := le t
          by_cases c1 : 1 < l
          · have := cn_len (n := t) (fun h => c ⟨c1, h⟩)
            simp only
            omega
          · have := cn_len c1
            simp only
            omega
    have cl : cnD l = if (1 : Int) < (l : Int) then .int (l : Nat) else .bl (decide ((l : Int) = 1)) := by
      unfold cnD
      by_cases h : 1 < l
      · rw [if_pos h, if_pos (by omega)]
      · rw [if_neg h, if_neg (by omega)]; congr 2; exact propext (by omega)
    have ct : cnD t = if (1 : Int) < (t : Int) then .int (t : Nat) else .bl (decide ((t : Int) = 1)) := by
      unfold cnD
      by_cases h : 1 < t
      · rw [if_pos h, if_pos (by omega)]
      · rw [if_neg h, if_neg (by omega)]; congr 2; exact propext (by omega)
    have k10 := key (x := .tup [cnD l, cnD t]) fin
    by_cases q1 : (1 : Int) < (l : Int)
    · by_cases q2 : (1 : Int) < (t : Int)
      · rw [cl, ct, if_pos q1, if_pos q2] at k10
        simp_arith [hr, q1, q2]
        exact k10 _ _ ⟨rfl, rfl⟩
      · rw [cl, ct, if_pos q1, if_neg q2] at k10
        simp_arith [hr, q1, q2]
        exact k10 _ _ ⟨rfl, rfl⟩
    · by_cases q2 : (1 : Int) < (t : Int)
      · rw [cl, ct, if_neg q1, if_pos q2] at k10
        simp_arith [hr, q1, q2]
        exact k10 _ _ ⟨rfl, rfl⟩
      · rw [cl, ct, if_neg q1, if_neg q2] at k10
        simp_arith [hr, q1, q2]
        exact k10 _ _ ⟨rfl, rfl⟩
end

noncomputable def lwT : S := (sSeq (sSet 5 (eCall0 F_paper_of (aCons (eVar 2) aNil))) (sSeq (sIf (tOf (eOp oNe (eVar 5) (eVar 3))) (sRet (eC (.bl false))) sNx) (sIf (tOf (eOp oIsNot (eVar 5) (eC .non))) (sDrop (eBL oAppend (eVar 5) (aCons (eC (dS "more")) aNil))) sNx)))
noncomputable def lwE : S := (sSeq (sSet 9 (eVar 2)) (sSeq (sIf (tOf (eOp oIs (eVar 3) (eC .non))) (sSet 9 (eSl oSl (eVar 2) oNo (oSo (eCall0 F_l_due (aCons (eVar 2) aNil))))) sNx) (sRet (eOp oIs (eCall0 F_shows (aCons (eVar 9) (aCons (eCall0 F_paper_of (aCons (eVar 9) aNil)) aNil))) (eC (.bl true))))))
noncomputable def lwC : S := (sSeq (sSet 8 (eCall0 F_l_spoilt (aCons (eVar 6) (aCons (eVar 7) aNil)))) (sIf (tOf (eOp oNe (eCall0 F_shows (aCons (eVar 2) (aCons (eVar 8) aNil))) (eAnd (eOp oIsNot (eVar 3) (eC .non)) (eCall0 F_l_same (aCons (eVar 8) (aCons (eVar 3) aNil)))))) (sRet (eC (.bl false))) sNx))
noncomputable def lwS : S := (sSeq (sSet 6 (eIf (tOf (eOp oIs (eVar 3) (eC .non))) (eLst aNil) (eVar 3))) (sSeq (sIf (tOf (eOp oNe (eCall0 F_shows (aCons (eVar 2) (aCons (eVar 6) aNil))) (eOp oIsNot (eVar 3) (eC .non)))) (sRet (eC (.bl false))) sNx) (sSeq (sFor (wSeq (eSl oSl (eVar 1) oNo (oSo (eC (.int 6))))) (gN 7) lwC) lwE)))
theorem law_eq : F_law = mkFn 1 10 (sSeq (sSet 1 (eCall0 F_l_cells (aCons (eVar 0) aNil))) (sSeq (sSet 2 (eCall0 F_l_book (aCons (eVar 1) aNil))) (sSeq (sSet 3 (eC .non)) (sSeq (sIf (tOf (eOp oIs (eCall0 F_l_due (aCons (eVar 2) aNil)) (eC .non))) (sSet 3 (eCall0 F_l_paper (aCons (eVar 2) aNil))) sNx) (sSeq (sFor (wAs rg1 (aCons (eC (.int 2)) aNil)) (gN 4) lwT) lwS))))) := rfl
/-! the paper spoilt, whole; the law -/
theorem rtP_rk {r : RS} {P : D → Hs → Prop} {k : S} (h : RtP r P) : Rk (finR (seqR r k)) P := by
  cases r with
  | rt d A => exact h
  | _ => exact h.elim
theorem rtP_fin {r : RS} {P : D → Hs → Prop} (h : RtP r P) : Rk (finR r) P := by
  cases r with
  | rt d A => exact h
  | _ => exact h.elim
section
variable {A B : Hs} {R : List (List (Nat × Nat))} {w : List (Nat × Nat)} {p0 q r b : Nat} {rs : List Nat} {c kind at_ pl : Int} {o0 o1 o2 o3 o4 o5 o6 o7 o8 o9 : Option D} {W : D} {v : Bool} {L : List Ln}
theorem vw_py {P : PyData} (h : ∀ B, Fr [] A B → oIsi os_ xs_ tb_ W (.ty "list") B = .ok (.bl false) B) (hP : ∀ B, pyA B 40 W = some P) (k : ∀ l, PyData.eqv P (.list l) = false) : Vw A R W false :=
  vw_flat h fun B p rs _ g => by rw [eqX_py (hP B) g.py]; exact congrArg (fun z => RE.ok (D.bl z) B) (k _)
theorem spZ_ok (h : IsPp A p0 rs R) (hR : Pp R) : RtP (spZ [some (.ref p0), some (.int c), o2, o3, o4, o5, o6, o7, o8] A) fun W A1 => (∃ v, Vw A1 R W v) ∧ Fr [] A A1 := by
  have fp : ∀ M : Hs, Fr [] A (A ++ M) := fun M => fr_pushes
  have hrs : rs.length ≤ 254 := by rw [h.l]; exact hR.l
  unfold spZ
  rcases (by omega : c / 50 % 8 = 0 ∨ c / 50 % 8 = 1 ∨ c / 50 % 8 = 2 ∨ c / 50 % 8 = 3 ∨ c / 50 % 8 = 4 ∨ c / 50 % 8 = 5 ∨ c / 50 % 8 = 6 ∨ c / 50 % 8 = 7) with q | q | q | q | q | q | q | q
  all_goals
    simp_arith [q]
    simp only [Nat.add_assoc, Nat.reduceAdd, List.append_assoc, List.cons_append, List.nil_append]
    refine ⟨?_, fp _⟩
  · exact ⟨_, vw_py (P := .none) (fun _ _ => rfl) (fun B => py_n B 40) fun l => by simp [PyData.eqv]⟩
  · exact ⟨_, vw_py (P := .tuple []) (fun _ _ => rfl) (fun B => rfl) fun l => by simp [PyData.eqv]⟩
  · obtain ⟨C, hC⟩ : ∃ C, C = A ++ [O.dic false false [], O.lst [], O.lst [D.ref (List.length A + 1)], O.lst [D.non], O.lst [D.ref p0], O.lst [D.non, D.tup [], D.ref (List.length A), dS "right", D.int 7, D.ref (List.length A + 2), D.ref (List.length A + 3), D.ref (List.length A + 4)]] := ⟨_, rfl⟩
    rw [← hC]
    have g : C[A.length]? = some (.dic false false []) := by rw [hC, ← Nat.add_zero A.length, gA]; rfl
    exact ⟨_, vw_flat (fun B f => isl_d (f.get g (by simp))) fun B p rs f g2 => eqX_dl (f.get g (by simp)) g2.o⟩
  · exact ⟨_, vw_py (P := .str (fS "right")) (fun _ _ => rfl) (fun B => rfl) fun l => by simp [PyData.eqv]⟩
  · exact ⟨_, vw_py (P := .int 7) (fun _ _ => rfl) (fun B => rfl) fun l => by simp [PyData.eqv]⟩
  · refine vw_pp (ss := [A.length + 1]) (S := [[]]) ⟨by rw [gA]; rfl, rfl, fun i r w h1 h2 => ?_⟩ (by simp) (by simp) hR
    have : i = 0 := by
      have := (List.getElem?_eq_some_iff.mp h1).1
      simpa using this
    subst this
    simp only [List.getElem?_cons_zero, Option.some.injEq] at h1 h2
    subst h1 h2
    unfold IsRow
    rw [gA]; rfl
  · obtain ⟨C, hC⟩ : ∃ C, C = A ++ [O.dic false false [], O.lst [], O.lst [D.ref (List.length A + 1)], O.lst [D.non], O.lst [D.ref p0], O.lst [D.non, D.tup [], D.ref (List.length A), dS "right", D.int 7, D.ref (List.length A + 2), D.ref (List.length A + 3), D.ref (List.length A + 4)]] := ⟨_, rfl⟩
    rw [← hC]
    have g : C[A.length + 3]? = some (.lst [.non]) := by rw [hC, gA]; rfl
    refine ⟨_, vw_bad (P := .list [.none]) (fun B f => formed_row (k := 0) (d := .non) (f.get g (by simp)) (by simp) rfl rfl fun e he => ?_) (fun B f => ?_) (.inl ?_) hR⟩
    · rw [List.mem_singleton] at he
      subst he
      exact ⟨false, rfl⟩
    · rw [py_lst (f.get g (by simp))]; rfl
    · unfold pyR
      cases R <;> simp [PyData.eqv, PyData.eqvAll]
  · obtain ⟨C, hC⟩ : ∃ C, C = A ++ [O.dic false false [], O.lst [], O.lst [D.ref (List.length A + 1)], O.lst [D.non], O.lst [D.ref p0], O.lst [D.non, D.tup [], D.ref (List.length A), dS "right", D.int 7, D.ref (List.length A + 2), D.ref (List.length A + 3), D.ref (List.length A + 4)]] := ⟨_, rfl⟩
    rw [← hC]
    have g : C[A.length + 4]? = some (.lst ([p0].map D.ref)) := by rw [hC, gA]; rfl
    have fC : Fr [] A C := by rw [hC]; exact fp _
    have hC' := frPp h fC
    cases R with
    | nil =>
      have rs0 : rs = [] := by have := h.l; simpa using this
      subst rs0
      refine vw_pp (ss := [p0]) (S := [[]]) ⟨g, rfl, fun i r w h1 h2 => ?_⟩ (by simp) (by simp) hR
      have : i = 0 := by
        have := (List.getElem?_eq_some_iff.mp h1).1
        simpa using this
      subst this
      simp only [List.getElem?_cons_zero, Option.some.injEq] at h1 h2
      subst h1 h2
      exact hC'.o
    | cons w R =>
      obtain ⟨r0, rs', rfl⟩ : ∃ r0 rs', rs = r0 :: rs' := by
        cases rs with
        | nil => have := h.l; simp at this
        | cons a b => exact ⟨a, b, rfl⟩
      have rows : ∀ r ∈ r0 :: rs', ∃ l, C[r]? = some (.lst l) := fun r hr => by
        obtain ⟨i, hi⟩ := List.getElem?_of_mem hr
        have li : i < (w :: R).length := by rw [← h.l]; exact (List.getElem?_eq_some_iff.mp hi).1
        exact ⟨_, hC'.r i r _ hi (List.getElem?_eq_getElem li)⟩
      have pq : ∀ d ∈ (r0 :: rs').map D.ref, ∀ B, Fr [] C B → Pq B d false := fun d hd B f => by
        obtain ⟨r, hr, rfl⟩ := List.mem_map.mp hd
        obtain ⟨l, hl⟩ := rows r hr
        exact pq_no fun E f2 => isi_lt (f2.get (f.get hl (by simp)) (by simp))
      refine ⟨_, vw_bad (P := .list [Kk.pyR (w :: R)]) (fun B f => ?_) (fun B f => ?_) (.inl ?_) hR⟩
      · refine formed_pair (rs := [p0]) (k := 0) (f.get g (by simp)) (by simp) (fun s hs => ?_) ⟨p0, _, rfl, f.get hC'.o (by simp), .ref r0, by simp, pq _ (by simp) B f⟩
        rw [List.mem_singleton] at hs
        subst hs
        exact ⟨_, f.get hC'.o (by simp), by simp only [List.length_map]; omega, fun d hd => ⟨false, pq d hd B f⟩⟩
      · rw [py_lst (f.get g (by simp))]
        have e : pyA B 39 (.ref p0) = some (Kk.pyR (w :: R)) := by
          rw [py_lst (f.get hC'.o (by simp)), py_rows (n := 35) hC'.l fun i r w h1 h2 => f.get (hC'.r i r w h1 h2) (by simp)]
          rfl
        simp only [List.map_cons, List.map_nil, e]
        rfl
      · have hw := hR.p w List.mem_cons_self
        cases w with
        | nil => simp at hw
        | cons pr w =>
          cases R with
          | nil => simp [Kk.pyR, PyData.eqv, PyData.eqvAll, pyP]
          | cons w2 R => simp [Kk.pyR, PyData.eqv, PyData.eqvAll]
theorem spR_ok {d : D} {pr : Nat × Nat} {n : Nat} (h : IsPp A p0 rs R) (hR : Pp R) (ha : 0 ≤ at_) (hw : R[at_.toNat]? = some w) (hz : w[n]? = some pr) (hd : Rw A w n pr d) : RtP (spR [some (.ref p0), o1, o2, some (.int at_), o4, some d, o6, o7, o8] A) fun W A1 => (∃ v, Vw A1 R W v) ∧ Fr [] A A1 := by
  have ho := h.o
  have lp := lt_of_get ho
  have hrs : rs.length ≤ 254 := by rw [h.l]; exact hR.l
  have p1 : (at_ + 1).toNat = at_.toNat + 1 := by omega
  have lT : (List.take at_.toNat (rs.map D.ref)).length ≤ 254 := by rw [List.length_take, List.length_map]; omega
  have lD : (List.drop (at_ + 1).toNat (rs.map D.ref)).length ≤ 254 := by rw [List.length_drop, List.length_map]; omega
  unfold spR
  simp_arith [ho]
  have f : Fr [] A (A ++ [O.lst (List.take at_.toNat (rs.map D.ref))] ++ [O.lst [d]] ++ [O.lst (List.take at_.toNat (rs.map D.ref) ++ [d])] ++ [O.lst (List.drop (at_ + 1).toNat (rs.map D.ref))] ++ [O.lst (List.take at_.toNat (rs.map D.ref) ++ [d] ++ List.drop (at_ + 1).toNat (rs.map D.ref))]) := (((Fr.push.then_push).then_push).then_push).then_push
  refine ⟨vw_rw (frPp h f) hR hw hz (hd.frame f) ?_, f⟩
  rw [List.getElem?_append_right (by simp)]
  simp [p1, List.map_take, List.map_drop]
theorem spoilt_ok (h : IsPp A p0 rs R) (hR : Pp R) : Rk (F_l_spoilt [.ref p0, .int c] A) fun W A1 => (∃ v, Vw A1 R W v) ∧ Fr [] A A1 := by
  have ho := h.o
  have lb := lt_of_get ho
  have hrs : rs.length ≤ 254 := by rw [h.l]; exact hR.l
  obtain ⟨C0, hC0⟩ : ∃ C0, C0 = A ++ [O.lst [.int 11, .int (max 1 (rs.length : Int)), .int 5]] := ⟨_, rfl⟩
  have f0 : Fr [] A C0 := by rw [hC0]; exact .push
  have g0 : C0[A.length]? = some (.lst (([11, max 1 (rs.length : Int), 5] : List Int).map D.int)) := by rw [hC0]; simp
  obtain ⟨C1, e1, g1, f1⟩ := digits_ok (c := c) g0 (by intro s hs; simp only [List.mem_cons, List.not_mem_nil, or_false] at hs; omega) (by simp)
  obtain ⟨d0, d1, d2, hdd, b0, b1, b2⟩ : ∃ d0 d1 d2 : Int, digs c [11, max 1 (rs.length : Int), 5] = [d0, d1, d2] ∧ (0 ≤ d0 ∧ d0 < 11) ∧ (0 ≤ d1 ∧ d1 < max 1 (rs.length : Int)) ∧ (0 ≤ d2 ∧ d2 < 5) :=
    ⟨_, _, _, rfl, by omega, ⟨Int.emod_nonneg _ (by omega), Int.emod_lt_of_pos _ (by omega)⟩, by omega⟩
  have l0 : C0.length = A.length + 1 := by rw [hC0]; simp
  rw [hdd, l0] at g1
  rw [l0] at e1
  have gl : ∀ (gs : List G) (env : Sl), gL gs (.ref (A.length + 1)) env C1 = gAll gs [D.int d0, .int d1, .int d2] env C1 := fun gs env => gL_ (by rw [z7k, g1]; rfl)
  have f01 := f0.trans f1
  have h1 := frPp h f01
  have ho1 := h1.o
  have mx1 : oMax2 (.int 1) (.int (rs.length : Int)) A = .ok (.int (max 1 (rs.length : Int))) A := by simp_arith []
  rw [spoilt_eq]
  by_cases k0 : d0 = 0
  · subst k0
    simp_arith [ho, ← hC0, e1, gl, -z3q, mx1]
    refine rtP_rk (RtP.call (fun r => RtP r _) (spZ_ok h1 hR) ?_)
    rintro W A1 ⟨a, b⟩
    exact ⟨a, f01.trans b⟩
  · have h2 := frPp h1 (.push (u := .lst []))
    have ho2 := h2.o
    by_cases k1 : rs = []
    · have eq := oEq_lst (A := C1 ++ [O.lst []]) (i := p0) (j := C1.length) (l := []) (by rw [ho2, k1]; rfl) zbj rfl
      simp_arith [ho, ← hC0, e1, gl, -z3q, mx1, k0, eq]
      refine rtP_rk (RtP.call (fun r => RtP r _) (spZ_ok h2 hR) ?_)
      rintro W A1 ⟨a, b⟩
      exact ⟨a, f01.trans (Fr.push.trans b)⟩
    · have lp : 0 < rs.length := List.length_pos_iff.mpr k1
      have eq := oEq_len (A := C1 ++ [O.lst []]) (i := p0) (j := C1.length) ho2 zbj (by simpa using k1)
      have hl1 : d1.toNat < rs.length := by omega
      have hlR : d1.toNat < R.length := by rw [← h.l]; exact hl1
      obtain ⟨r, hr⟩ : ∃ r, rs[d1.toNat]? = some r := ⟨_, List.getElem?_eq_getElem hl1⟩
      obtain ⟨w, hw⟩ : ∃ w, R[d1.toNat]? = some w := ⟨_, List.getElem?_eq_getElem hlR⟩
      have ix : (rs.map D.ref)[d1.toNat]? = some (.ref r) := by rw [List.getElem?_map, hr]; rfl
      have row2 := h2.r _ r w hr hw
      have hrow : (C1 ++ [O.lst []])[r]? = some (.lst (w.map prD)) := row2
      have wl := hR.p w (List.mem_of_getElem? hw)
      have wn : (w.length : Int) ≠ 0 := by omega
      obtain ⟨pl, hpl⟩ : ∃ pl, pl = d2 % (w.length : Int) := ⟨_, rfl⟩
      have pb : 0 ≤ pl ∧ pl < w.length := by rw [hpl]; exact ⟨Int.emod_nonneg _ wn, Int.emod_lt_of_pos _ (by omega)⟩
      obtain ⟨pr, hz⟩ : ∃ pr, w[pl.toNat]? = some pr := ⟨_, List.getElem?_eq_getElem (by omega)⟩
      have ixp : (w.map prD)[pl.toNat]? = some (.tup [.int (pr.1 : Nat), .int (pr.2 : Nat)]) := by rw [List.getElem?_map, hz]; rfl
      have pn := hR.n w (List.mem_of_getElem? hw) pr (List.mem_of_getElem? hz)
      obtain ⟨D1, hD1⟩ : ∃ D1, D1 = C1 ++ [O.lst []] ++ [O.lst [.int (pr.1 : Nat), .int (pr.2 : Nat)]] ++ [O.lst [.tup [.int ((pr.1 : Nat) + 1), .int (pr.2 : Nat)], .tup [.int (pr.1 : Nat), .int ((pr.2 : Nat) + 1)], .tup [.int (pr.1 : Nat), .int (pr.2 : Nat), .int 0], .ref (C1.length + 1), .tup [.int (pr.1 : Nat), .non], .tup [dS "0", .int (pr.2 : Nat)]]] := ⟨_, rfl⟩
      have fD : Fr [] (C1 ++ [O.lst []]) D1 := by rw [hD1]; exact Fr.push.then_push
      have hn8 : D1[C1.length + 1]? = some (.lst [.int (pr.1 : Nat), .int (pr.2 : Nat)]) := by rw [hD1]; exact get_push (by rw [List.getElem?_append_right (by simp)]; simp)
      have ho8 : D1[C1.length + 1 + 1]? = some (.lst [.tup [.int ((pr.1 : Nat) + 1), .int (pr.2 : Nat)], .tup [.int (pr.1 : Nat), .int ((pr.2 : Nat) + 1)], .tup [.int (pr.1 : Nat), .int (pr.2 : Nat), .int 0], .ref (C1.length + 1), .tup [.int (pr.1 : Nat), .non], .tup [dS "0", .int (pr.2 : Nat)]]) := by rw [hD1, List.getElem?_append_right (by simp)]; simp
      have lw : (w.map prD).length ≤ 1000 := by rw [List.length_map]; exact wl.2
      simp_arith [ho, ← hC0, e1, gl, -z3q, mx1, k0, eq, ho2, ix, hrow, wn, ← hpl, ixp, ← hD1]
      refine Nx.call (fun R => Rk (finR (seqR R _)) _) (spK_ok (l := pr.1) (t := pr.2) (fD.get hrow (by simp)) wl.2 hz pb pn (by omega) hn8 ho8) ?_
      rintro _ E ⟨d, rfl, hd, fE⟩
      simp_arith []
      refine rtP_fin (RtP.call (fun r => RtP r _) (spR_ok (frPp h2 (fD.trans fE)) hR b1.1 hw hz hd) ?_)
      rintro W A1 ⟨a, b⟩
      exact ⟨a, f01.trans (Fr.push.trans ((fD.trans fE).trans b))⟩
end

/-! the law, its parts -/
theorem nx_trn {J : Sl → Hs → Prop} {R : RS → Prop} {P : Sl → Hs → Prop} {r : RS} (h : Nx r P) (k : ∀ e A, P e A → J e A) : Trn J R r := by
  cases r with
  | nx e A => exact k e A h
  | _ => exact h.elim
theorem ne_bb (v : Bool) (B : Hs) : oNe (.bl v) (.bl v) B = .ok (.bl false) B := by rw [oNe_bb]; simp
section
variable {A B : Hs} {R : List (List (Nat × Nat))} {p q b r : Nat} {rs : List Nat} {c : Int} {o0 o1 o2 o3 o4 o5 o6 o7 o8 o9 : Option D} {W : D} {v : Bool} {L : List Ln} {cs : List Int}
theorem shows_v (hb : A[b]? = some (.lst (L.map Ln.d))) (h : BkOk L) (hw : fwr [] L = none) (hv : Vw A (papL [] L) W v) : ∃ A1, F_shows [.ref b, W] A = .ok (.bl v) A1 ∧ Fr [] A A1 := by
  obtain ⟨u, A1, e1, h1, f1⟩ := (paper_ok hb h).ex
  rw [hw] at h1
  obtain ⟨p, rs, rfl, hp, hf⟩ := h1
  obtain ⟨f, A2, e2, f2, z1, z2⟩ := hv.form A1 f1
  have nr : ∀ B, oIsNot (.ref p) .non B = .ok (.bl true) B := fun _ => rfl
  refine ⟨A2, ?_, f1.trans f2⟩
  cases f with
  | false =>
    rw [z1 rfl]
    unfold F_shows
    simp_arith [e1, nr, e2]
  | true =>
    have e3 := z2 rfl A2 p rs (f1.trans f2) (frPp hp f2)
    unfold F_shows
    simp_arith [e1, nr, e2, e3]
theorem shows_n {n : Nat} (hb : A[b]? = some (.lst (L.map Ln.d))) (h : BkOk L) (hw : fwr [] L = some n) : ∃ A1, F_shows [.ref b, W] A = .ok (.bl false) A1 ∧ Fr [] A A1 := by
  obtain ⟨u, A1, e1, h1, f1⟩ := (paper_ok hb h).ex
  rw [hw] at h1
  subst h1
  have nn : ∀ B, oIsNot .non .non B = .ok (.bl false) B := fun _ => rfl
  refine ⟨A1, ?_, f1⟩
  unfold F_shows
  simp_arith [e1, nn]
theorem same_v (hv : Vw A R W v) (g : IsPp A p rs R) : F_l_same [W, .ref p] A = .ok (.bl v) A := by
  rcases hv.same A p rs .refl g with ⟨e, rfl⟩ | ⟨e, z1, z2, h1, h2, h3⟩
  · unfold F_l_same
    simp_arith [e]
  · unfold F_l_same
    simp_arith [e, h1, h2, z55]
    rw [h3]
/-- the law's end: what is right is shown -/
theorem right_yes (hb : A[b]? = some (.lst (L.map Ln.d))) (h : BkOk L) (hl : L.length ≤ 254) (hw : fwr [] L = none) : ∃ p A1 A2, F_paper_of [.ref b] A = .ok (.ref p) A1 ∧ F_shows [.ref b, .ref p] A1 = .ok (.bl true) A2 := by
  obtain ⟨u, A1, e1, h1, f1⟩ := (paper_ok hb h).ex
  rw [hw] at h1
  obtain ⟨p, rs, rfl, hp, hf⟩ := h1
  have hrs : rs.length ≤ 254 := by rw [hp.l]; exact Nat.le_trans papL_len hl
  obtain ⟨A2, e2, f2⟩ := shows_ok (f1.get hb (by simp)) h hp (by omega) (fun w hw => by have := papL_w h.x w hw; omega)
  rw [hw] at e2
  simp only [decide_true] at e2
  exact ⟨p, A1, A2, e1, e2⟩
/-- where the book is right -/
theorem lwT_y (hb : A[b]? = some (.lst (L.map Ln.d))) (h : BkOk L) (hw : fwr [] L = none) (hq : IsPp A q rs (papL [] L)) : Nx (lwT [o0, o1, some (.ref b), some (.ref q), o4, o5, o6, o7, o8, o9] A) fun en A1 => ∃ o5, en = [o0, o1, some (.ref b), some (.ref q), o4, o5, o6, o7, o8, o9] ∧ Fr [] A A1 := by
  obtain ⟨u, A1, e1, h1, f1⟩ := (paper_ok hb h).ex
  rw [hw] at h1
  obtain ⟨p, ps, rfl, hp, hf⟩ := h1
  have eq := eqA_pp hp (frPp hq f1)
  have ne : oNe (.ref p) (.ref q) A1 = .ok (.bl false) A1 := by
    have := neA_of eq
    simpa using this
  have nr : ∀ B, oIsNot (.ref p) .non B = .ok (.bl true) B := fun _ => rfl
  have ho := hp.o
  have lps : ps.length ≤ 16000000 - 5 := by
    have h1 := hp.l
    have h2 := papL_len (r := L) (P := [])
    have h3 := h.l
    omega
  unfold lwT
  simp_arith [e1, ne, nr, ho]
  exact ⟨_, rfl, f1.then_set (.inr hf.hp)⟩
theorem lwC_y (hb : A[b]? = some (.lst (L.map Ln.d))) (h : BkOk L) (hl : L.length ≤ 254) (hw : fwr [] L = none) (hq : IsPp A q rs (papL [] L)) : Nx (lwC [o0, o1, some (.ref b), some (.ref q), o4, o5, some (.ref q), some (.int c), o8, o9] A) fun en A1 => ∃ o8, en = [o0, o1, some (.ref b), some (.ref q), o4, o5, some (.ref q), some (.int c), o8, o9] ∧ Fr [] A A1 := by
  obtain ⟨W, A1, e1, ⟨v, hv⟩, f1⟩ := (spoilt_ok (c := c) hq (Pp.of h hl hw)).ex
  obtain ⟨A2, e2, f2⟩ := shows_v (f1.get hb (by simp)) h hw hv
  have hv2 : Vw A2 (papL [] L) W v := ⟨fun B f => by
    obtain ⟨f', B1, a, b, c, d⟩ := hv.form B (f2.trans f)
    exact ⟨f', B1, a, b, c, fun z C p rs g => d z C p rs (f2.trans g)⟩, fun B p rs f => hv.same B p rs (f2.trans f)⟩
  have e3 := same_v hv2 (frPp hq (f1.trans f2))
  have nr : ∀ B, oIsNot (.ref q) .non B = .ok (.bl true) B := fun _ => rfl
  have ne : ∀ B, oNe (.bl v) (.bl v) B = .ok (.bl false) B := fun B => by rw [oNe_bb]; simp
  unfold lwC
  simp_arith [e1, e2, nr, e3, ne]
  exact ⟨_, rfl, f1.trans f2⟩
theorem lwE_y (hb : A[b]? = some (.lst (L.map Ln.d))) (h : BkOk L) (hl : L.length ≤ 254) (hw : fwr [] L = none) : Rk (finR (lwE [o0, o1, some (.ref b), some (.ref q), o4, o5, o6, o7, o8, o9] A)) fun v _ => v = .bl true := by
  obtain ⟨p, A1, A2, e1, e2⟩ := right_yes hb h hl hw
  have nn : ∀ B, oIs (.ref q) .non B = .ok (.bl false) B := fun _ => rfl
  unfold lwE
  simp_arith [nn, e1, e2]
theorem lwS_y (hr : A[r]? = some (.lst (cs.map D.int))) (hc : cs.length ≤ 63) (hb : A[b]? = some (.lst (L.map Ln.d))) (h : BkOk L) (hl : L.length ≤ 254) (hw : fwr [] L = none) (hq : IsPp A q rs (papL [] L)) : Rk (finR (lwS [o0, some (.ref r), some (.ref b), some (.ref q), o4, o5, o6, o7, o8, o9] A)) fun v _ => v = .bl true := by
  have hrs : rs.length ≤ 254 := by rw [hq.l]; exact Nat.le_trans papL_len hl
  obtain ⟨A1, e1, f1⟩ := shows_ok hb h hq (by omega) (fun w hw => by have := papL_w h.x w hw; omega)
  rw [hw] at e1
  simp only [decide_true] at e1
  have nr : ∀ B, oIsNot (.ref q) .non B = .ok (.bl true) B := fun _ => rfl
  have nn : ∀ B, oIs (.ref q) .non B = .ok (.bl false) B := fun _ => rfl
  have hr1 := f1.get hr (by simp)
  have t6 : List.take (Int.toNat 6) (cs.map D.int) = (cs.take 6).map D.int := by rw [List.map_take]; rfl
  have t6' : List.take 6 (cs.map D.int) = (cs.take 6).map D.int := by rw [List.map_take]
  have g6 : (A1 ++ [O.lst ((cs.take 6).map D.int)])[A1.length]? = some (.lst ((cs.take 6).map D.int)) := zbj
  unfold lwS
  simp_arith [nn, e1, nr, ne_bb, hr1, t6, t6', g6]
  refine for_go (R := fun rs => Rk (finR (seqR rs _)) _) (fun j en C => ∃ o7 o8, en = [o0, some (.ref r), some (.ref b), some (.ref q), o4, o5, some (.ref q), o7, o8, o9] ∧ Fr [] A C ∧ Fr [] (A1 ++ [O.lst ((cs.take 6).map D.int)]) C) ⟨_, _, rfl, f1.then_push, .refl⟩ (fun j en C _ h => by obtain ⟨_, _, _, _, h⟩ := h; exact h.get g6 (by simp)) ?_ ?_
  · rintro j _ C x hx ⟨o7, o8, rfl, fC, fC2⟩
    rw [List.getElem?_map] at hx
    obtain ⟨c, _, rfl⟩ := Option.map_eq_some_iff.mp hx
    show Got _ _
    rw [show gN 7 (D.int c) [o0, some (.ref r), some (.ref b), some (.ref q), o4, o5, some (.ref q), o7, o8, o9] C = some [o0, some (.ref r), some (.ref b), some (.ref q), o4, o5, some (.ref q), some (.int c), o8, o9] from rfl, z95]
    refine nx_trn (lwC_y (fC.get hb (by simp)) h hl hw (frPp hq fC)) ?_
    rintro _ C1 ⟨o8, rfl, f⟩
    exact ⟨_, _, rfl, fC.trans f, fC2.trans f⟩
  · rintro _ C ⟨o7, o8, rfl, fC, _⟩
    simp_arith []
    exact lwE_y (fC.get hb (by simp)) h hl hw
/-- where it is not -/
theorem lwT_n {n : Nat} (hb : A[b]? = some (.lst (L.map Ln.d))) (h : BkOk L) (hw : fwr [] L = some n) : Nx (lwT [o0, o1, some (.ref b), some .non, o4, o5, o6, o7, o8, o9] A) fun en A1 => ∃ o5, en = [o0, o1, some (.ref b), some .non, o4, o5, o6, o7, o8, o9] ∧ Fr [] A A1 := by
  obtain ⟨u, A1, e1, h1, f1⟩ := (paper_ok hb h).ex
  rw [hw] at h1
  subst h1
  have ne : ∀ B, oNe .non .non B = .ok (.bl false) B := fun _ => rfl
  have nr : ∀ B, oIsNot .non .non B = .ok (.bl false) B := fun _ => rfl
  unfold lwT
  simp_arith [e1, ne, nr]
  exact ⟨_, rfl, f1⟩
theorem lwC_n {n : Nat} (hb : A[b]? = some (.lst (L.map Ln.d))) (h : BkOk L) (hw : fwr [] L = some n) (hq : A[q]? = some (.lst [])) : Nx (lwC [o0, o1, some (.ref b), some .non, o4, o5, some (.ref q), some (.int c), o8, o9] A) fun en A1 => ∃ o8, en = [o0, o1, some (.ref b), some .non, o4, o5, some (.ref q), some (.int c), o8, o9] ∧ Fr [] A A1 := by
  have hp : IsPp A q [] [] := ⟨hq, rfl, fun i r w h1 h2 => (by simp at h1)⟩
  obtain ⟨W, A1, e1, _, f1⟩ := (spoilt_ok (c := c) hp ⟨by simp, by simp, by simp⟩).ex
  obtain ⟨A2, e2, f2⟩ := shows_n (W := W) (f1.get hb (by simp)) h hw
  have nr : ∀ B, oIsNot .non .non B = .ok (.bl false) B := fun _ => rfl
  unfold lwC
  simp_arith [e1, e2, nr]
  exact ⟨_, rfl, f1.trans f2⟩
theorem lwE_n {n : Nat} (hb : A[b]? = some (.lst (L.map Ln.d))) (h : BkOk L) (hl : L.length ≤ 254) (hw : fwr [] L = some n) : Rk (finR (lwE [o0, o1, some (.ref b), some .non, o4, o5, o6, o7, o8, o9] A)) fun v _ => v = .bl true := by
  obtain ⟨_, A1, e1, rfl, f1⟩ := (law_due_ok hb h).ex
  rw [hw] at e1
  have m0 : mN (some n) = .int (n : Nat) := rfl
  rw [m0] at e1
  have hb1 := f1.get hb (by simp)
  have nn : ∀ B, oIs .non .non B = .ok (.bl true) B := fun _ => rfl
  have tk : List.take ((n : Nat) : Int).toNat (L.map Ln.d) = (L.take n).map Ln.d := by rw [List.map_take]; rfl
  obtain ⟨C, hC⟩ : ∃ C, C = A1 ++ [O.lst ((L.take n).map Ln.d)] := ⟨_, rfl⟩
  have gC : C[A1.length]? = some (.lst ((L.take n).map Ln.d)) := by rw [hC]; exact zbj
  have fw : fwr [] (L.take n) = none := by
    rw [fwr_take, hw]
    simp
  obtain ⟨p, B1, B2, e2, e3⟩ := right_yes gC (h.take n) (by rw [List.length_take]; omega) fw
  unfold lwE
  simp_arith [nn, hb, e1, hb1, tk, ← hC, e2, e3]
theorem lwS_n {n : Nat} (hr : A[r]? = some (.lst (cs.map D.int))) (hc : cs.length ≤ 63) (hb : A[b]? = some (.lst (L.map Ln.d))) (h : BkOk L) (hl : L.length ≤ 254) (hw : fwr [] L = some n) : Rk (finR (lwS [o0, some (.ref r), some (.ref b), some .non, o4, o5, o6, o7, o8, o9] A)) fun v _ => v = .bl true := by
  have f0 : Fr [] A (A ++ [O.lst []]) := .push
  obtain ⟨A1, e1, f1⟩ := shows_n (W := .ref A.length) (f0.get hb (by simp)) h hw
  have nr : ∀ B, oIsNot .non .non B = .ok (.bl false) B := fun _ => rfl
  have nn : ∀ B, oIs .non .non B = .ok (.bl true) B := fun _ => rfl
  have hr1 := f1.get (f0.get hr (by simp)) (by simp)
  have hq1 : A1[A.length]? = some (.lst []) := f1.get zbj (by simp)
  have t6 : List.take (Int.toNat 6) (cs.map D.int) = (cs.take 6).map D.int := by rw [List.map_take]; rfl
  have t6' : List.take 6 (cs.map D.int) = (cs.take 6).map D.int := by rw [List.map_take]
  have g6 : (A1 ++ [O.lst ((cs.take 6).map D.int)])[A1.length]? = some (.lst ((cs.take 6).map D.int)) := zbj
  unfold lwS
  simp_arith [nn, e1, nr, ne_bb, hr1, t6, t6', g6]
  refine for_go (R := fun rs => Rk (finR (seqR rs _)) _) (fun j en C => ∃ o7 o8, en = [o0, some (.ref r), some (.ref b), some .non, o4, o5, some (.ref A.length), o7, o8, o9] ∧ Fr [] A C ∧ Fr [] (A1 ++ [O.lst ((cs.take 6).map D.int)]) C) ⟨_, _, rfl, (f0.trans f1).then_push, .refl⟩ (fun j en C _ h => by obtain ⟨_, _, _, _, h⟩ := h; exact h.get g6 (by simp)) ?_ ?_
  · rintro j _ C x hx ⟨o7, o8, rfl, fC, fC2⟩
    rw [List.getElem?_map] at hx
    obtain ⟨c, _, rfl⟩ := Option.map_eq_some_iff.mp hx
    show Got _ _
    rw [show gN 7 (D.int c) [o0, some (.ref r), some (.ref b), some .non, o4, o5, some (.ref A.length), o7, o8, o9] C = some [o0, some (.ref r), some (.ref b), some .non, o4, o5, some (.ref A.length), some (.int c), o8, o9] from rfl, z95]
    refine nx_trn (lwC_n (fC.get hb (by simp)) h hw (fC2.get (get_push hq1) (by simp))) ?_
    rintro _ C1 ⟨o8, rfl, f⟩
    exact ⟨_, _, rfl, fC.trans f, fC2.trans f⟩
  · rintro _ C ⟨o7, o8, rfl, fC, _⟩
    simp_arith []
    exact lwE_n (fC.get hb (by simp)) h hl hw
theorem law_rk (ns : List Int) (A : Hs) (hn : ns.length ≤ 63) : Rk (F_law [.scr (ns.map D.int)] A) fun v _ => v = .bl true := by
  obtain ⟨cs, r, A1, e1, g1, hc, f1⟩ := cells_ok (ns := ns) (A := A)
  obtain ⟨L, b, A2, e2, g2, hb2, hL, hl, f2⟩ := book_ok g1 hc
  have gr2 := f2.get g1 (by simp)
  obtain ⟨_, A3, e3, rfl, f3⟩ := (law_due_ok g2 hL).ex
  have gr3 := f3.get gr2 (by simp)
  have gb3 := f3.get g2 (by simp)
  rw [law_eq]
  cases hw : fwr [] L with
  | none =>
    rw [hw] at e3
    have m0 : mN none = .non := rfl
    rw [m0] at e3
    have nn : ∀ B, oIs .non .non B = .ok (.bl true) B := fun _ => rfl
    obtain ⟨_, A4, e4, ⟨q, rs, rfl, hq, _⟩, f4⟩ := (lpaper_ok gb3 hL hw).ex
    have gr4 := f4.get gr3 (by simp)
    have gb4 := f4.get gb3 (by simp)
    simp_arith [e1, e2, e3, nn, e4]
    refine for_go (R := fun rs => Rk (finR (seqR rs _)) _) (fun j en C => ∃ o4 o5, en = [some (.scr (ns.map D.int)), some (.ref r), some (.ref b), some (.ref q), o4, o5, none, none, none, none] ∧ Fr [] A4 C) ⟨_, _, rfl, .refl⟩ (fun _ _ _ _ _ => trivial) ?_ ?_
    · rintro j _ C x hx ⟨o4, o5, rfl, fC⟩
      obtain ⟨rfl, hj⟩ := rgL_get hx
      show Got _ _
      rw [show gN 4 (D.int (0 + (j : Int) * 1)) [some (.scr (ns.map D.int)), some (.ref r), some (.ref b), some (.ref q), o4, o5, none, none, none, none] C = some [some (.scr (ns.map D.int)), some (.ref r), some (.ref b), some (.ref q), some (.int (0 + (j : Int) * 1)), o5, none, none, none, none] from rfl, z95]
      refine nx_trn (lwT_y (fC.get gb4 (by simp)) hL hw (frPp hq fC)) ?_
      rintro _ C1 ⟨o5, rfl, f⟩
      exact ⟨_, _, rfl, fC.trans f⟩
    · rintro _ C ⟨o4, o5, rfl, fC⟩
      simp_arith []
      exact lwS_y (fC.get gr4 (by simp)) hc (fC.get gb4 (by simp)) hL hl hw (frPp hq fC)
  | some n =>
    rw [hw] at e3
    have m0 : mN (some n) = .int (n : Nat) := rfl
    rw [m0] at e3
    have nn : ∀ B, oIs (.int (n : Nat)) .non B = .ok (.bl false) B := fun _ => rfl
    simp_arith [e1, e2, e3, nn]
    refine for_go (R := fun rs => Rk (finR (seqR rs _)) _) (fun j en C => ∃ o4 o5, en = [some (.scr (ns.map D.int)), some (.ref r), some (.ref b), some .non, o4, o5, none, none, none, none] ∧ Fr [] A3 C) ⟨_, _, rfl, .refl⟩ (fun _ _ _ _ _ => trivial) ?_ ?_
    · rintro j _ C x hx ⟨o4, o5, rfl, fC⟩
      obtain ⟨rfl, hj⟩ := rgL_get hx
      show Got _ _
      rw [show gN 4 (D.int (0 + (j : Int) * 1)) [some (.scr (ns.map D.int)), some (.ref r), some (.ref b), some .non, o4, o5, none, none, none, none] C = some [some (.scr (ns.map D.int)), some (.ref r), some (.ref b), some .non, some (.int (0 + (j : Int) * 1)), o5, none, none, none, none] from rfl, z95]
      refine nx_trn (lwT_n (fC.get gb3 (by simp)) hL hw) ?_
      rintro _ C1 ⟨o5, rfl, f⟩
      exact ⟨_, _, rfl, fC.trans f⟩
    · rintro _ C ⟨o4, o5, rfl, fC⟩
      simp_arith []
      exact lwS_n (fC.get gr3 (by simp)) hc (fC.get gb3 (by simp)) hL hl hw
theorem law_ex (ns : List Int) (hn : ns.length ≤ 63) (A : Hs) : ∃ A1, F_law [.scr (ns.map D.int)] A = .ok (.bl true) A1 := by
  have h := law_rk ns A hn
  generalize F_law [.scr (ns.map D.int)] A = r at h ⊢
  obtain ⟨v, A1, e, rfl⟩ := h.ex
  exact ⟨A1, e⟩
end
theorem law_true (ns : List Int) (hn : ns.length ≤ 63) : ∃ A, F_law [.scr (ns.map D.int)] [] = .ok (.bl true) A := law_ex ns hn []

end Kk

namespace Kk
open PySem L2 SM
open DL (op_addU op_subU op_mulA op_divU op_modU op_powU op_shlU op_shrU op_andU op_orU op_xorU op_ltU op_leU op_gtU op_geU op_isU op_notU call_lenU call_absU call_max2U call_min2U call_intU call_listU call_tupleU call_allU call_sumU call_isiA ix_U sl_U pi_seqU pe_dx pe_dx0 pe_mx pe_mx0 Dx Mx)
structure Txt (K : PySem.W.Frag) (mg : Str → Option Value) (ca : CaT) : Prop where
  g_Judge : mg "Judge" = some (.ref (ca "Judge"))
  g_NoBook : mg "NoBook" = some (.ref (ca "NoBook"))
  g_STANDS : mg "STANDS" = some (.ref (ca "STANDS"))
  e_NoBook : PySem.W.excIn K (ca "NoBook") [.type "ValueError", .type "Exception", .type "BaseException", .type "object"] "ValueError.__new__" = true
  k_NoBook : PySem.W.keepIn K (.ref (ca "NoBook")) = true
  b_NoBook : PySem.W.subIn K (.ref (ca "NoBook")) (.type "BaseException") = some true
  t_NoBook : PySem.W.typeIn K (.ref (ca "NoBook")) = some (.type "type")
  cl_Judge : Cls K (ca "Judge")
  mk_Judge : PySem.W.makesIn K (ca "Judge") = true
  kc_Judge : PySem.W.keepIn K (.ref (ca "Judge")) = true
  n_Judge_had : PySem.W.findIn K (.ref (ca "Judge")) "had" = some none
  n_Judge_openings : PySem.W.findIn K (.ref (ca "Judge")) "openings" = some none
  n_Judge_written : PySem.W.findIn K (.ref (ca "Judge")) "written" = some none
  isO : AllC (fun C => DL.InC K (ca C) ∧ btn C = false) os_
  isX : AllC (fun C => ExcC K (ca C) ∧ btn C = false) xs_
  isT : TbOk K ca tb_
  w_STANDS : ∀ F m, Rep K ca F m (.ref (ca "STANDS")) (.wt [dS "calls", dS "answers", dS "open", dS "ends", dS "left", dS "rests", dS "closed", dS "cut", dS "gone"])
  b_all : mg "all" = none
  b_bool : mg "bool" = none
  b_dict : mg "dict" = none
  b_enumerate : mg "enumerate" = none
  b_int : mg "int" = none
  b_isinstance : mg "isinstance" = none
  b_len : mg "len" = none
  b_list : mg "list" = none
  b_max : mg "max" = none
  b_range : mg "range" = none
  b_repr : mg "repr" = none
  b_sorted : mg "sorted" = none
  b_str : mg "str" = none
  b_tuple : mg "tuple" = none
  c_BYTE : ∃ t, mg "BYTE" = some (.int 255 t)
  c_MOST_BYTE : ∃ t, mg "MOST_BYTE" = some (.int 255 t)
  c_MOST_DATA : ∃ t, mg "MOST_DATA" = some (.int 1000 t)
  c_SIZE : ∃ t, mg "SIZE" = some (.int 4294967296 t)
  one : True
abbrev N_l_begun_book : List Str := ["_law_number", "_law_pairs_here", "_law_found", "_law_k", "_law_one", "_law_other", "_law_kind", "_law_lines"]
theorem sc_l_begun_book : FnScope N_l_begun_book ["_law_number", "_law_pairs_here"] (defScope s_l_begun_book) := ⟨rfl, rfl, rfl, by decide +kernel, rfl, by decide +kernel, by decide +kernel⟩
theorem ok_l_begun_book {P : Program} {w : World} {K : PySem.W.Frag} {mg : Str → Option Value} {base : Heap} {a : Addr} {fd : FuncData} {ca : CaT} (T : Txt K mg ca) (F : Fun K "_law_begun_book" "_law_begun_book" s_l_begun_book a fd)  :
    FnOk P w K mg base (L2.CX P w) 1 a fd ["_law_number", "_law_pairs_here"] (SpF K ca F_l_begun_book) := by
  refine SM.Fn.ofF F sc_l_begun_book rfl fun cdv A outer s H E hr => ?_
  have nd := sc_l_begun_book.nd
  refine ⟨_, (pss_cons (ps_set (i := 2) nd rfl (by first | exact Or.inl rfl | exact Or.inr rfl) (pe_lst pa_nil)) (pss_cons (ps_for (passes_of rfl) rfl (pi_enumA (by rfl) T.b_enumerate (pa_cons (pv 1) pa_nil)) (pg_tup rfl (pgs_cons (pg_name (i := 3) nd rfl (by first | exact Or.inl rfl | exact Or.inr rfl)) (pgs_cons (pg_tup rfl (pgs_cons (pg_name (i := 4) nd rfl (by first | exact Or.inl rfl | exact Or.inr rfl)) (pgs_cons (pg_name (i := 5) nd rfl (by first | exact Or.inl rfl | exact Or.inr rfl)) pgs_nil))) pgs_nil))) (pss_cons (ps_set (i := 6) nd rfl (by first | exact Or.inl rfl | exact Or.inr rfl) (pe_op op_modU (pe_op op_divU (pv 0) (pe_ix (ix_U (K := K)) (pe_lst (pa_cons pe_int (pa_cons pe_int (pa_cons pe_int pa_nil)))) (pv 3) (fun _ _ => rfl))) pe_int)) (pss_cons (ps_set (i := 7) nd rfl (by first | exact Or.inl rfl | exact Or.inr rfl) (pe_lst (pa_cons (pe_op (op_addU (K := K)) (pe_op (op_addU (K := K)) (pe_tup (pa_cons pe_str (pa_cons pe_int pa_nil))) (pv 4)) (pe_tup (pa_cons (pe_ix (ix_U (K := K)) (pv 5) pe_int (fun _ _ => rfl)) pa_nil))) (pa_cons (pe_op (op_addU (K := K)) (pe_op (op_addU (K := K)) (pe_tup (pa_cons pe_str (pa_cons pe_int pa_nil))) (pv 5)) (pe_tup (pa_cons (pe_ix (ix_U (K := K)) (pv 4) pe_int (fun _ _ => rfl)) pa_nil))) pa_nil)))) (pss_cons (ps_if (pt_cmpR (op_eqPK (K := K) (DL.room65 hr)) (pv 6) pe_int (nomark _)) (pss_one (ps_set (i := 7) nd rfl (by first | exact Or.inl rfl | exact Or.inr rfl) (pe_slice (sl_U (K := K)) (pv 7) po_none (po_some pe_int)))) (pss_one (ps_if (pt_cmpR (op_eqPK (K := K) (DL.room65 hr)) (pv 6) pe_int (nomark _)) (pss_one (ps_set (i := 7) nd rfl (by first | exact Or.inl rfl | exact Or.inr rfl) (pe_lst (pa_cons (pe_op (op_addU (K := K)) (pe_op (op_addU (K := K)) (pe_tup (pa_cons pe_str (pa_cons pe_int pa_nil))) (pv 4)) (pe_tup (pa_cons (pe_op (op_addU (K := K)) (pe_ix (ix_U (K := K)) (pv 5) pe_int (fun _ _ => rfl)) pe_int) pa_nil))) (pa_cons (pe_ix (ix_U (K := K)) (pv 7) pe_int (fun _ _ => rfl)) pa_nil))))) (pss_one (ps_if (pt_cmpR (op_eqPK (K := K) (DL.room65 hr)) (pv 6) pe_int (nomark _)) (pss_one (ps_set (i := 7) nd rfl (by first | exact Or.inl rfl | exact Or.inr rfl) (pe_lst pa_nil))) (pss_one (ps_if (pt_cmpR (op_eqPK (K := K) (DL.room65 hr)) (pe_op op_modU (pv 6) pe_int) pe_int (nomark _)) (pss_one (ps_set (i := 7) nd rfl (by first | exact Or.inl rfl | exact Or.inr rfl) (pe_revL (pv 7)))) pss_nil))))))) (pss_one (ps_set (i := 2) nd rfl (by first | exact Or.inl rfl | exact Or.inr rfl) (pe_op (op_addU (K := K)) (pv 2) (pv 7)))))))) (pss_one (ps_ret (pv 2))))), ?_⟩
  exact (ss_seq (ss_set (se_lst sa_nil)) (ss_seq (ss_for (sw_enumA se_var) (sg_tup (sgs_cons sg_name (sgs_cons (sg_tup (sgs_cons sg_name (sgs_cons sg_name sgs_nil)) rfl) sgs_nil)) rfl) (ss_seq (ss_set (se_op os_mod (se_op os_div se_var (se_op os_ix (se_lst (sa_cons se_int (sa_cons se_int (sa_cons se_int sa_nil)))) se_var)) se_int)) (ss_seq (ss_set (se_lst (sa_cons (se_op os_add (se_op os_add (se_tup (sa_cons (se_strS (by decide +kernel)) (sa_cons se_int sa_nil))) se_var) (se_tup (sa_cons (se_op os_ix se_var se_int) sa_nil))) (sa_cons (se_op os_add (se_op os_add (se_tup (sa_cons (se_strS (by decide +kernel)) (sa_cons se_int sa_nil))) se_var) (se_tup (sa_cons (se_op os_ix se_var se_int) sa_nil))) sa_nil)))) (ss_seq (ss_if (st_test (se_op os_eq se_var se_int)) (ss_set (se_sl sls_all se_var so_none (so_some se_int))) (ss_if (st_test (se_op os_eq se_var se_int)) (ss_set (se_lst (sa_cons (se_op os_add (se_op os_add (se_tup (sa_cons (se_strS (by decide +kernel)) (sa_cons se_int sa_nil))) se_var) (se_tup (sa_cons (se_op os_add (se_op os_ix se_var se_int) se_int) sa_nil))) (sa_cons (se_op os_ix se_var se_int) sa_nil)))) (ss_if (st_test (se_op os_eq se_var se_int)) (ss_set (se_lst sa_nil)) (ss_if (st_test (se_op os_eq (se_op os_mod se_var se_int) se_int)) (ss_set (se_rev se_var)) ss_next)))) (ss_set (se_op os_add se_var se_var)))))) (ss_ret se_var)))
abbrev N_l_digits : List Str := ["_law_cell", "_law_sizes", "_law_found", "_law_size"]
theorem sc_l_digits : FnScope N_l_digits ["_law_cell", "_law_sizes"] (defScope s_l_digits) := ⟨rfl, rfl, rfl, by decide +kernel, rfl, by decide +kernel, by decide +kernel⟩
theorem ok_l_digits {P : Program} {w : World} {K : PySem.W.Frag} {mg : Str → Option Value} {base : Heap} {a : Addr} {fd : FuncData} {ca : CaT} (T : Txt K mg ca) (F : Fun K "_law_digits" "_law_digits" s_l_digits a fd)  :
    FnOk P w K mg base (L2.CX P w) 1 a fd ["_law_cell", "_law_sizes"] (SpF K ca F_l_digits) := by
  refine SM.Fn.ofF F sc_l_digits rfl fun cdv A outer s H E hr => ?_
  have nd := sc_l_digits.nd
  refine ⟨_, (pss_cons (ps_set (i := 2) nd rfl (by first | exact Or.inl rfl | exact Or.inr rfl) (pe_lst pa_nil)) (pss_cons (ps_for (passes_of rfl) rfl (pi_seqU (K := K) (pv 1)) (pg_name (i := 3) nd rfl (by first | exact Or.inl rfl | exact Or.inr rfl)) (pss_cons (ps_expr (pe_bm PySem.F.plainAttrs_list PySem.F.slot_list_append PySem.F.type_list_append mt_append (pv 2) (pa_cons (pe_op op_modU (pv 0) (pv 3)) pa_nil))) (pss_one (ps_set (i := 0) nd rfl (by first | exact Or.inl rfl | exact Or.inr rfl) (pe_op op_divU (pv 0) (pv 3)))))) (pss_one (ps_ret (pv 2))))), ?_⟩
  exact (ss_seq (ss_set (se_lst sa_nil)) (ss_seq (ss_for (sw_seq se_var) sg_name (ss_seq (ss_drop (se_bl_ ms_append se_var (sa_cons (se_op os_mod se_var se_var) sa_nil))) (ss_set (se_op os_div se_var se_var)))) (ss_ret se_var)))
abbrev N_l_pairs : List Str := ["_law_cell", "_law_some", "_law_found", "_law_k", "_law_places", "_law_ports", "_law_firsts", "_law_one", "_law_other", "_law_more"]
theorem sc_l_pairs : FnScope N_l_pairs ["_law_cell"] (defScope s_l_pairs) := ⟨rfl, rfl, rfl, by decide +kernel, rfl, by decide +kernel, by decide +kernel⟩
theorem ok_l_pairs {P : Program} {w : World} {K : PySem.W.Frag} {mg : Str → Option Value} {base : Heap} {a : Addr} {fd : FuncData} {ca : CaT} (T : Txt K mg ca) (F : Fun K "_law_pairs" "_law_pairs" s_l_pairs a fd) (C_l_digits : Dx P w K mg base 1 "_law_digits" (SpF K ca F_l_digits)) :
    FnOk P w K mg base (L2.CX P w) 2 a fd ["_law_cell"] (SpF K ca F_l_pairs) := by
  refine SM.Fn.ofF F sc_l_pairs rfl fun cdv A outer s H E hr => ?_
  have nd := sc_l_pairs.nd
  refine ⟨_, (pss_cons (ps_set (i := 1) nd rfl (by first | exact Or.inl rfl | exact Or.inr rfl) (pe_dx C_l_digits (takes_of rfl rfl rfl rfl) hr (by decide) rfl (pa_cons (pv 0) (pa_cons (pe_lst (pa_cons pe_int (pa_cons pe_int (pa_cons pe_int (pa_cons pe_int (pa_cons pe_int (pa_cons pe_int pa_nil))))))) pa_nil)))) (pss_cons (ps_set (i := 2) nd rfl (by first | exact Or.inl rfl | exact Or.inr rfl) (pe_lst pa_nil)) (pss_cons (ps_for (passes_of rfl) rfl (pi_range1 rfl T.b_range (pa_cons pe_int pa_nil)) (pg_name (i := 3) nd rfl (by first | exact Or.inl rfl | exact Or.inr rfl)) (pss_cons (ps_set (i := 4) nd rfl (by first | exact Or.inl rfl | exact Or.inr rfl) (pe_ix (ix_U (K := K)) (pe_lst (pa_cons (pe_lst (pa_cons pe_int (pa_cons pe_int pa_nil))) (pa_cons (pe_lst (pa_cons pe_int (pa_cons pe_int pa_nil))) (pa_cons (pe_lst (pa_cons pe_int (pa_cons pe_int pa_nil))) pa_nil)))) (pe_op op_modU (pe_op (op_addU (K := K)) (pe_ix (ix_U (K := K)) (pv 1) pe_int (fun _ _ => rfl)) (pv 3)) pe_int) (fun _ _ => rfl))) (pss_cons (ps_set (i := 5) nd rfl (by first | exact Or.inl rfl | exact Or.inr rfl) (pe_lst (pa_cons (pe_op (op_addU (K := K)) pe_int (pe_op (op_mulA (K := K)) (pe_ix (ix_U (K := K)) (pv 1) pe_int (fun _ _ => rfl)) (pe_op op_modU (pv 3) pe_int))) (pa_cons (pe_op (op_addU (K := K)) (pe_op (op_addU (K := K)) pe_int (pe_ix (ix_U (K := K)) (pv 1) pe_int (fun _ _ => rfl))) (pe_op (op_mulA (K := K)) pe_int (pv 3))) pa_nil)))) (pss_cons (ps_set (i := 6) nd rfl (by first | exact Or.inl rfl | exact Or.inr rfl) (pe_lst (pa_cons (pe_op (op_addU (K := K)) (pe_op (op_mulA (K := K)) (pe_ix (ix_U (K := K)) (pv 1) pe_int (fun _ _ => rfl)) pe_int) (pe_op (op_mulA (K := K)) (pv 3) (pe_ix (ix_U (K := K)) (pe_lst (pa_cons pe_int (pa_cons pe_int (pa_cons pe_int pa_nil)))) (pe_op op_modU (pe_ix (ix_U (K := K)) (pv 1) pe_int (fun _ _ => rfl)) pe_int) (fun _ _ => rfl)))) (pa_cons (pe_op (op_addU (K := K)) (pe_ix (ix_U (K := K)) (pe_lst (pa_cons pe_int (pa_cons pe_int (pa_cons pe_int (pa_cons pe_int pa_nil))))) (pe_op op_modU (pe_ix (ix_U (K := K)) (pv 1) pe_int (fun _ _ => rfl)) pe_int) (fun _ _ => rfl)) (pe_op (op_mulA (K := K)) pe_int (pv 3))) pa_nil)))) (pss_cons (ps_set (i := 7) nd rfl (by first | exact Or.inl rfl | exact Or.inr rfl) (pe_tup (pa_cons (pe_ix (ix_U (K := K)) (pv 4) pe_int (fun _ _ => rfl)) (pa_cons (pe_tup (pa_cons (pe_ix (ix_U (K := K)) (pv 4) pe_int (fun _ _ => rfl)) (pa_cons (pe_ix (ix_U (K := K)) (pv 5) pe_int (fun _ _ => rfl)) (pa_cons (pe_ix (ix_U (K := K)) (pv 5) pe_int (fun _ _ => rfl)) pa_nil)))) (pa_cons (pe_ix (ix_U (K := K)) (pv 6) pe_int (fun _ _ => rfl)) pa_nil))))) (pss_one (ps_expr (pe_bm PySem.F.plainAttrs_list PySem.F.slot_list_append PySem.F.type_list_append mt_append (pv 2) (pa_cons (pe_tup (pa_cons (pv 7) (pa_cons (pe_tup (pa_cons (pe_ix (ix_U (K := K)) (pv 4) pe_int (fun _ _ => rfl)) (pa_cons (pe_tup (pa_cons (pe_ix (ix_U (K := K)) (pv 4) pe_int (fun _ _ => rfl)) (pa_cons (pe_ix (ix_U (K := K)) (pv 5) pe_int (fun _ _ => rfl)) (pa_cons (pe_ix (ix_U (K := K)) (pv 5) pe_int (fun _ _ => rfl)) pa_nil)))) (pa_cons (pe_ix (ix_U (K := K)) (pv 6) pe_int (fun _ _ => rfl)) pa_nil)))) pa_nil))) pa_nil))))))))) (pss_cons (ps_if (pt_cmpR op_gtU (pe_op op_modU (pe_op op_divU (pv 0) pe_int) pe_int) pe_int (nomark _)) (pss_cons (ps_asg (pe_ix (ix_U (K := K)) (pv 2) pe_int (fun _ _ => rfl)) (pg_tup rfl (pgs_cons (pg_name (i := 7) nd rfl (by first | exact Or.inl rfl | exact Or.inr rfl)) (pgs_cons (pg_name (i := 8) nd rfl (by first | exact Or.inl rfl | exact Or.inr rfl)) pgs_nil)))) (pss_cons (ps_set (i := 9) nd rfl (by first | exact Or.inl rfl | exact Or.inr rfl) (pe_ix (ix_U (K := K)) (pe_lst (pa_cons (pe_lst (pa_cons pe_int (pa_cons pe_int pa_nil))) (pa_cons (pe_lst (pa_cons pe_int (pa_cons pe_int pa_nil))) (pa_cons (pe_lst (pa_cons pe_int (pa_cons pe_int pa_nil))) (pa_cons (pe_lst (pa_cons pe_int (pa_cons pe_int pa_nil))) pa_nil))))) (pe_op op_modU (pe_op op_divU (pv 0) pe_int) pe_int) (fun _ _ => rfl))) (pss_one (PS.or (ps_asg (pe_tup (pa_cons (pe_op (op_addU (K := K)) (pe_slice (sl_U (K := K)) (pv 7) po_none (po_some pe_int)) (pe_tup (pa_cons (pe_op (op_addU (K := K)) (pe_ix (ix_U (K := K)) (pv 7) pe_int (fun _ _ => rfl)) (pe_ix (ix_U (K := K)) (pv 9) pe_int (fun _ _ => rfl))) pa_nil))) (pa_cons (pe_op (op_addU (K := K)) (pe_slice (sl_U (K := K)) (pv 8) po_none (po_some pe_int)) (pe_tup (pa_cons (pe_op (op_addU (K := K)) (pe_op op_divU (pe_ix (ix_U (K := K)) (pv 8) pe_int (fun _ _ => rfl)) pe_int) (pe_ix (ix_U (K := K)) (pv 9) pe_int (fun _ _ => rfl))) pa_nil))) pa_nil))) (pg_sub (pv 2) pe_int set_list)) (ps_dput (DL.room65w hr) (pv 2) pe_int (pe_tup (pa_cons (pe_op (op_addU (K := K)) (pe_slice (sl_U (K := K)) (pv 7) po_none (po_some pe_int)) (pe_tup (pa_cons (pe_op (op_addU (K := K)) (pe_ix (ix_U (K := K)) (pv 7) pe_int (fun _ _ => rfl)) (pe_ix (ix_U (K := K)) (pv 9) pe_int (fun _ _ => rfl))) pa_nil))) (pa_cons (pe_op (op_addU (K := K)) (pe_slice (sl_U (K := K)) (pv 8) po_none (po_some pe_int)) (pe_tup (pa_cons (pe_op (op_addU (K := K)) (pe_op op_divU (pe_ix (ix_U (K := K)) (pv 8) pe_int (fun _ _ => rfl)) pe_int) (pe_ix (ix_U (K := K)) (pv 9) pe_int (fun _ _ => rfl))) pa_nil))) pa_nil))) rfl))))) pss_nil) (pss_one (ps_ret (pv 2))))))), ?_⟩
  exact (ss_seq (ss_set (se_call (sa_cons se_var (sa_cons (se_lst (sa_cons se_int (sa_cons se_int (sa_cons se_int (sa_cons se_int (sa_cons se_int (sa_cons se_int sa_nil))))))) sa_nil)))) (ss_seq (ss_set (se_lst sa_nil)) (ss_seq (ss_for (sw_r1 (sa_cons se_int sa_nil)) sg_name (ss_seq (ss_set (se_op os_ix (se_lst (sa_cons (se_lst (sa_cons se_int (sa_cons se_int sa_nil))) (sa_cons (se_lst (sa_cons se_int (sa_cons se_int sa_nil))) (sa_cons (se_lst (sa_cons se_int (sa_cons se_int sa_nil))) sa_nil)))) (se_op os_mod (se_op os_add (se_op os_ix se_var se_int) se_var) se_int))) (ss_seq (ss_set (se_lst (sa_cons (se_op os_add se_int (se_op os_mul (se_op os_ix se_var se_int) (se_op os_mod se_var se_int))) (sa_cons (se_op os_add (se_op os_add se_int (se_op os_ix se_var se_int)) (se_op os_mul se_int se_var)) sa_nil)))) (ss_seq (ss_set (se_lst (sa_cons (se_op os_add (se_op os_mul (se_op os_ix se_var se_int) se_int) (se_op os_mul se_var (se_op os_ix (se_lst (sa_cons se_int (sa_cons se_int (sa_cons se_int sa_nil)))) (se_op os_mod (se_op os_ix se_var se_int) se_int)))) (sa_cons (se_op os_add (se_op os_ix (se_lst (sa_cons se_int (sa_cons se_int (sa_cons se_int (sa_cons se_int sa_nil))))) (se_op os_mod (se_op os_ix se_var se_int) se_int)) (se_op os_mul se_int se_var)) sa_nil)))) (ss_seq (ss_set (se_tup (sa_cons (se_op os_ix se_var se_int) (sa_cons (se_tup (sa_cons (se_op os_ix se_var se_int) (sa_cons (se_op os_ix se_var se_int) (sa_cons (se_op os_ix se_var se_int) sa_nil)))) (sa_cons (se_op os_ix se_var se_int) sa_nil))))) (ss_drop (se_bl_ ms_append se_var (sa_cons (se_tup (sa_cons se_var (sa_cons (se_tup (sa_cons (se_op os_ix se_var se_int) (sa_cons (se_tup (sa_cons (se_op os_ix se_var se_int) (sa_cons (se_op os_ix se_var se_int) (sa_cons (se_op os_ix se_var se_int) sa_nil)))) (sa_cons (se_op os_ix se_var se_int) sa_nil)))) sa_nil))) sa_nil)))))))) (ss_seq (ss_if (st_test (se_op os_gt (se_op os_mod (se_op os_div se_var se_int) se_int) se_int)) (ss_seq (ss_asg (se_op os_ix se_var se_int) (sg_tup (sgs_cons sg_name (sgs_cons sg_name sgs_nil)) rfl)) (ss_seq (ss_set (se_op os_ix (se_lst (sa_cons (se_lst (sa_cons se_int (sa_cons se_int sa_nil))) (sa_cons (se_lst (sa_cons se_int (sa_cons se_int sa_nil))) (sa_cons (se_lst (sa_cons se_int (sa_cons se_int sa_nil))) (sa_cons (se_lst (sa_cons se_int (sa_cons se_int sa_nil))) sa_nil))))) (se_op os_mod (se_op os_div se_var se_int) se_int))) (ss_put se_var se_int (se_tup (sa_cons (se_op os_add (se_sl sls_all se_var so_none (so_some se_int)) (se_tup (sa_cons (se_op os_add (se_op os_ix se_var se_int) (se_op os_ix se_var se_int)) sa_nil))) (sa_cons (se_op os_add (se_sl sls_all se_var so_none (so_some se_int)) (se_tup (sa_cons (se_op os_add (se_op os_div (se_op os_ix se_var se_int) se_int) (se_op os_ix se_var se_int)) sa_nil))) sa_nil)))))) ss_next) (ss_ret se_var)))))
abbrev N_l_book : List Str := ["_law_cells_here", "_law_pairs_here", "_law_written", "_law_had", "_law_book_here", "_law_tick", "_law_cell", "_law_sort", "_law_which", "_law_side", "_law_later", "_law_many", "_law_odd", "_law_byte", "_law_talk", "_law_other", "_law_more", "_law_data", "_law_k", "_law_later_written", "_law_one"]
theorem sc_l_book : FnScope N_l_book ["_law_cells_here"] (defScope s_l_book) := ⟨rfl, rfl, rfl, by decide +kernel, rfl, by decide +kernel, by decide +kernel⟩
theorem ok_l_book {P : Program} {w : World} {K : PySem.W.Frag} {mg : Str → Option Value} {base : Heap} {a : Addr} {fd : FuncData} {ca : CaT} (T : Txt K mg ca) (F : Fun K "_law_book" "_law_book" s_l_book a fd) (C_l_begun_book : Dx P w K mg base 1 "_law_begun_book" (SpF K ca F_l_begun_book)) (C_l_digits : Dx P w K mg base 1 "_law_digits" (SpF K ca F_l_digits)) (C_l_pairs : Dx P w K mg base 2 "_law_pairs" (SpF K ca F_l_pairs)) :
    FnOk P w K mg base (L2.CX P w) 3 a fd ["_law_cells_here"] (SpF K ca F_l_book) := by
  refine SM.Fn.ofF F sc_l_book rfl fun cdv A outer s H E hr => ?_
  have nd := sc_l_book.nd
  refine ⟨_, (pss_cons (ps_set (i := 1) nd rfl (by first | exact Or.inl rfl | exact Or.inr rfl) (pe_dx C_l_pairs (takes_of rfl rfl rfl rfl) hr (by decide) rfl (pa_cons (pe_ix (ix_U (K := K)) (pe_op (op_addU (K := K)) (pv 0) (pe_lst (pa_cons pe_int pa_nil))) pe_int (fun _ _ => rfl)) pa_nil))) (pss_cons (ps_set (i := 2) nd rfl (by first | exact Or.inl rfl | exact Or.inr rfl) L2.pe_dnewN) (pss_cons (ps_set (i := 3) nd rfl (by first | exact Or.inl rfl | exact Or.inr rfl) L2.pe_dnewN) (pss_cons (ps_set (i := 4) nd rfl (by first | exact Or.inl rfl | exact Or.inr rfl) (pe_dx C_l_begun_book (takes_of rfl rfl rfl rfl) hr (by decide) rfl (pa_cons (pe_op op_divU (pe_ix (ix_U (K := K)) (pe_op (op_addU (K := K)) (pv 0) (pe_lst (pa_cons pe_int pa_nil))) pe_int (fun _ _ => rfl)) pe_int) (pa_cons (pv 1) pa_nil)))) (pss_cons (ps_set (i := 5) nd rfl (by first | exact Or.inl rfl | exact Or.inr rfl) pe_int) (pss_cons (ps_for (passes_of rfl) rfl (pi_seqU (K := K) (pe_slice (sl_U (K := K)) (pv 0) (po_some pe_int) po_none)) (pg_name (i := 6) nd rfl (by first | exact Or.inl rfl | exact Or.inr rfl)) (pss_cons (ps_asg (pe_dx C_l_digits (takes_of rfl rfl rfl rfl) hr (by decide) rfl (pa_cons (pv 6) (pa_cons (pe_lst (pa_cons pe_int (pa_cons pe_int (pa_cons pe_int (pa_cons pe_int (pa_cons pe_int (pa_cons pe_int (pa_cons pe_int pa_nil)))))))) pa_nil))) (pg_lst rfl (pgs_cons (pg_name (i := 7) nd rfl (by first | exact Or.inl rfl | exact Or.inr rfl)) (pgs_cons (pg_name (i := 8) nd rfl (by first | exact Or.inl rfl | exact Or.inr rfl)) (pgs_cons (pg_name (i := 9) nd rfl (by first | exact Or.inl rfl | exact Or.inr rfl)) (pgs_cons (pg_name (i := 10) nd rfl (by first | exact Or.inl rfl | exact Or.inr rfl)) (pgs_cons (pg_name (i := 11) nd rfl (by first | exact Or.inl rfl | exact Or.inr rfl)) (pgs_cons (pg_name (i := 12) nd rfl (by first | exact Or.inl rfl | exact Or.inr rfl)) (pgs_cons (pg_name (i := 13) nd rfl (by first | exact Or.inl rfl | exact Or.inr rfl)) pgs_nil))))))))) (pss_cons (ps_set (i := 14) nd rfl (by first | exact Or.inl rfl | exact Or.inr rfl) (pe_ix (ix_U (K := K)) (pe_ix (ix_U (K := K)) (pv 1) (pv 8) (fun _ _ => rfl)) (pv 9) (fun _ _ => rfl))) (pss_cons (ps_set (i := 15) nd rfl (by first | exact Or.inl rfl | exact Or.inr rfl) (pe_ix (ix_U (K := K)) (pe_ix (ix_U (K := K)) (pv 1) (pv 8) (fun _ _ => rfl)) (pe_op op_subU pe_int (pv 9)) (fun _ _ => rfl))) (pss_cons (ps_set (i := 5) nd rfl (by first | exact Or.inl rfl | exact Or.inr rfl) (pe_op (op_addU (K := K)) (pv 5) (pv 10))) (pss_one (ps_if (pt_cmpR (op_eqPK (K := K) (DL.room65 hr)) (pv 7) pe_int (nomark _)) (pss_cons (ps_set (i := 16) nd rfl (by first | exact Or.inl rfl | exact Or.inr rfl) (pe_ix (ix_U (K := K)) (pe_lst (pa_cons (pe_ix (ix_U (K := K)) (pv 15) pe_int (fun _ _ => rfl)) (pa_cons (pe_ix (ix_U (K := K)) (pv 15) pe_int (fun _ _ => rfl)) (pa_cons (pe_ix (ix_U (K := K)) (pv 15) pe_int (fun _ _ => rfl)) (pa_cons (pe_op (op_addU (K := K)) (pe_ix (ix_U (K := K)) (pv 15) pe_int (fun _ _ => rfl)) pe_int) (pa_cons (pe_ix (ix_U (K := K)) (pv 14) pe_int (fun _ _ => rfl)) (pa_cons (pe_ix (ix_U (K := K)) (pv 15) pe_int (fun _ _ => rfl)) pa_nil))))))) (pv 12) (fun _ _ => rfl))) (pss_one (ps_expr (pe_bm PySem.F.plainAttrs_list PySem.F.slot_list_append PySem.F.type_list_append mt_append (pv 4) (pa_cons (pe_op (op_addU (K := K)) (pe_op (op_addU (K := K)) (pe_tup (pa_cons pe_str (pa_cons (pv 5) pa_nil))) (pv 14)) (pe_tup (pa_cons (pv 16) pa_nil))) pa_nil))))) (pss_one (ps_if (pt_cmpR op_ltU (pv 7) pe_int (nomark _)) (pss_cons (ps_set (i := 17) nd rfl (by first | exact Or.inl rfl | exact Or.inr rfl) (pe_callTy (call_tupleU (K := K)) (by rfl) T.b_tuple (by decide +kernel) (pa_cons (pe_lc (own := [("_law_k", 18)]) (g := (gName 18)) rfl nd (pi_range1 rfl T.b_range (pa_cons (pe_op (op_addU (K := K)) pe_int (pv 11)) pa_nil)) (blkOk_by (own := [("_law_k", 18)]) (N := N_l_book) (sc := defScope s_l_book) (by decide +kernel)) (fun _ _ _ _ _ => (pg_name (i := 18) nd rfl (by first | exact Or.inl rfl | exact Or.inr rfl))) (fun _ _ _ _ _ => pts_nil) (fun _ _ _ _ _ => (pe_op op_modU (pe_op (op_addU (K := K)) (pv 13) (pe_op (op_mulA (K := K)) pe_int (pv 18))) pe_int))) pa_nil))) (pss_cons (L2.ps_nput (DL.room65 hr) (pv 2) (pv 14) (pe_op (op_addU (K := K)) (L2.pe_nget2 (DL.room65 hr) (pv 2) (pv 14) (pe_tup pa_nil) ⟨rfl, rfl, rfl, rfl⟩) (pv 17)) rfl) (pss_one (ps_expr (pe_bm PySem.F.plainAttrs_list PySem.F.slot_list_append PySem.F.type_list_append mt_append (pv 4) (pa_cons (pe_op (op_addU (K := K)) (pe_op (op_addU (K := K)) (pe_tup (pa_cons pe_str (pa_cons (pv 5) pa_nil))) (pv 14)) (pe_tup (pa_cons (pv 17) pa_nil))) pa_nil)))))) (pss_one (ps_if (pt_cmpR op_ltU (pv 7) pe_int (nomark _)) (pss_cons (ps_set (i := 17) nd rfl (by first | exact Or.inl rfl | exact Or.inr rfl) (pe_slice (sl_U (K := K)) (pe_slice (sl_U (K := K)) (L2.pe_nget2 (DL.room65 hr) (pv 2) (pv 15) (pe_tup pa_nil) ⟨rfl, rfl, rfl, rfl⟩) (po_some (L2.pe_nget2 (DL.room65 hr) (pv 3) (pv 14) pe_int ⟨rfl, rfl, rfl, rfl⟩)) po_none) po_none (po_some (pe_op (op_addU (K := K)) pe_int (pv 11))))) (pss_cons (ps_set (i := 19) nd rfl (by first | exact Or.inl rfl | exact Or.inr rfl) (pe_tup pa_nil)) (pss_cons (ps_if (PW.pt (pw_and (pt_cmpR (op_eqPK (K := K) (DL.room65 hr)) (pv 7) pe_int (nomark _)) (pw_and1 (pt_cmpR op_ltU (pv 12) pe_int (nomark _))))) (pss_cons (ps_set (i := 19) nd rfl (by first | exact Or.inl rfl | exact Or.inr rfl) (pe_tup (pa_cons (pv 13) (pa_cons (pv 12) pa_nil)))) (pss_one (ps_set (i := 17) nd rfl (by first | exact Or.inl rfl | exact Or.inr rfl) (pe_op (op_addU (K := K)) (pe_slice (sl_U (K := K)) (L2.pe_nget2 (DL.room65 hr) (pv 2) (pv 15) (pe_tup pa_nil) ⟨rfl, rfl, rfl, rfl⟩) (po_some (L2.pe_nget2 (DL.room65 hr) (pv 3) (pv 14) pe_int ⟨rfl, rfl, rfl, rfl⟩)) po_none) (pv 19))))) (pss_one (ps_if (pt_cmpR (op_eqPK (K := K) (DL.room65 hr)) (pv 7) pe_int (nomark _)) (pss_one (ps_set (i := 17) nd rfl (by first | exact Or.inl rfl | exact Or.inr rfl) (pe_ifExp (pt_cmpR (op_eqPK (K := K) (DL.room65 hr)) (pv 12) pe_int (nomark _)) (pe_op (op_addU (K := K)) (pv 17) (pe_tup (pa_cons (pv 13) pa_nil))) (pe_callTy (call_tupleU (K := K)) (by rfl) T.b_tuple (by decide +kernel) (pa_cons (pe_lc (own := [("_law_one", 20)]) (g := (gName 20)) rfl nd (pi_seqU (K := K) (pv 17)) (blkOk_by (own := [("_law_one", 20)]) (N := N_l_book) (sc := defScope s_l_book) (by decide +kernel)) (fun _ _ _ _ _ => (pg_name (i := 20) nd rfl (by first | exact Or.inl rfl | exact Or.inr rfl))) (fun _ _ _ _ _ => pts_nil) (fun _ _ _ _ _ => (pe_op op_modU (pe_op (op_addU (K := K)) (pv 20) (pv 12)) pe_int))) pa_nil))))) pss_nil))) (pss_cons (ps_if (pt_cmpR (op_nePK (K := K) (DL.room65 hr)) (pv 17) (pe_tup pa_nil) (nomark _)) (pss_cons (L2.ps_nput (DL.room65 hr) (pv 3) (pv 14) (pe_op (op_addU (K := K)) (L2.pe_nget2 (DL.room65 hr) (pv 3) (pv 14) pe_int ⟨rfl, rfl, rfl, rfl⟩) (pe_callB (call_lenU (K := K)) (by rfl) T.b_len (by decide +kernel) (pa_cons (pv 17) pa_nil))) rfl) (pss_one (ps_expr (pe_bm PySem.F.plainAttrs_list PySem.F.slot_list_append PySem.F.type_list_append mt_append (pv 4) (pa_cons (pe_op (op_addU (K := K)) (pe_op (op_addU (K := K)) (pe_tup (pa_cons pe_str (pa_cons (pv 5) pa_nil))) (pv 14)) (pe_tup (pa_cons (pv 17) pa_nil))) pa_nil))))) pss_nil) (pss_one (ps_if (pt_cmpR (op_nePK (K := K) (DL.room65 hr)) (pv 19) (pe_tup pa_nil) (nomark _)) (pss_cons (L2.ps_nput (DL.room65 hr) (pv 2) (pv 15) (pe_op (op_addU (K := K)) (L2.pe_nget2 (DL.room65 hr) (pv 2) (pv 15) (pe_tup pa_nil) ⟨rfl, rfl, rfl, rfl⟩) (pv 19)) rfl) (pss_one (ps_expr (pe_bm PySem.F.plainAttrs_list PySem.F.slot_list_append PySem.F.type_list_append mt_append (pv 4) (pa_cons (pe_op (op_addU (K := K)) (pe_op (op_addU (K := K)) (pe_tup (pa_cons pe_str (pa_cons (pv 5) pa_nil))) (pv 15)) (pe_tup (pa_cons (pv 19) pa_nil))) pa_nil))))) pss_nil)))))) (pss_one (ps_expr (pe_bm PySem.F.plainAttrs_list PySem.F.slot_list_append PySem.F.type_list_append mt_append (pv 4) (pa_cons (pe_op (op_addU (K := K)) (pe_op (op_addU (K := K)) (pe_tup (pa_cons pe_str (pa_cons (pv 5) pa_nil))) (pv 14)) (pe_tup (pa_cons (pe_ix (ix_U (K := K)) (pe_lst (pa_cons pe_str (pa_cons pe_str (pa_cons pe_str (pa_cons pe_str (pa_cons pe_str (pa_cons pe_str pa_nil))))))) (pv 12) (fun _ _ => rfl)) pa_nil))) pa_nil))))))))))))))) (pss_one (ps_ret (pv 4))))))))), ?_⟩
  exact (ss_seq (ss_set (se_call (sa_cons (se_op os_ix (se_op os_add se_var (se_lst (sa_cons se_int sa_nil))) se_int) sa_nil))) (ss_seq (ss_set se_nnew) (ss_seq (ss_set se_nnew) (ss_seq (ss_set (se_call (sa_cons (se_op os_div (se_op os_ix (se_op os_add se_var (se_lst (sa_cons se_int sa_nil))) se_int) se_int) (sa_cons se_var sa_nil)))) (ss_seq (ss_set se_int) (ss_seq (ss_for (sw_seq (se_sl sls_all se_var (so_some se_int) so_none)) sg_name (ss_seq (ss_asg (se_call (sa_cons se_var (sa_cons (se_lst (sa_cons se_int (sa_cons se_int (sa_cons se_int (sa_cons se_int (sa_cons se_int (sa_cons se_int (sa_cons se_int sa_nil)))))))) sa_nil))) (sg_lst (sgs_cons sg_name (sgs_cons sg_name (sgs_cons sg_name (sgs_cons sg_name (sgs_cons sg_name (sgs_cons sg_name (sgs_cons sg_name sgs_nil))))))) rfl)) (ss_seq (ss_set (se_op os_ix (se_op os_ix se_var se_var) se_var)) (ss_seq (ss_set (se_op os_ix (se_op os_ix se_var se_var) (se_op os_sub se_int se_var))) (ss_seq (ss_set (se_op os_add se_var se_var)) (ss_if (st_test (se_op os_eq se_var se_int)) (ss_seq (ss_set (se_op os_ix (se_lst (sa_cons (se_op os_ix se_var se_int) (sa_cons (se_op os_ix se_var se_int) (sa_cons (se_op os_ix se_var se_int) (sa_cons (se_op os_add (se_op os_ix se_var se_int) se_int) (sa_cons (se_op os_ix se_var se_int) (sa_cons (se_op os_ix se_var se_int) sa_nil))))))) se_var)) (ss_drop (se_bl_ ms_append se_var (sa_cons (se_op os_add (se_op os_add (se_tup (sa_cons (se_strS (by decide +kernel)) (sa_cons se_var sa_nil))) se_var) (se_tup (sa_cons se_var sa_nil))) sa_nil)))) (ss_if (st_test (se_op os_lt se_var se_int)) (ss_seq (ss_set (se_cb cs_tuple (sa_cons (se_lc (W2 := fun _ _ _ _ => False) (sw_r1 (sa_cons (se_op os_add se_int se_var) sa_nil)) sg_name (by decide) st_yes (se_op os_mod (se_op os_add se_var (se_op os_mul se_int se_var)) se_int)) sa_nil))) (ss_seq (ss_nput se_var se_var (se_op os_add (se_nget2 se_var se_var (se_tup sa_nil)) se_var)) (ss_drop (se_bl_ ms_append se_var (sa_cons (se_op os_add (se_op os_add (se_tup (sa_cons (se_strS (by decide +kernel)) (sa_cons se_var sa_nil))) se_var) (se_tup (sa_cons se_var sa_nil))) sa_nil))))) (ss_if (st_test (se_op os_lt se_var se_int)) (ss_seq (ss_set (se_sl sls_all (se_sl sls_all (se_nget2 se_var se_var (se_tup sa_nil)) (so_some (se_nget2 se_var se_var se_int)) so_none) so_none (so_some (se_op os_add se_int se_var)))) (ss_seq (ss_set (se_tup sa_nil)) (ss_seq (ss_if (st_and (st_test (se_op os_eq se_var se_int)) (st_test (se_op os_lt se_var se_int))) (ss_seq (ss_set (se_tup (sa_cons se_var (sa_cons se_var sa_nil)))) (ss_set (se_op os_add (se_sl sls_all (se_nget2 se_var se_var (se_tup sa_nil)) (so_some (se_nget2 se_var se_var se_int)) so_none) se_var))) (ss_if (st_test (se_op os_eq se_var se_int)) (ss_set (se_if (st_test (se_op os_eq se_var se_int)) (se_op os_add se_var (se_tup (sa_cons se_var sa_nil))) (se_cb cs_tuple (sa_cons (se_lc (W2 := fun _ _ _ _ => False) (sw_seq se_var) sg_name (by decide) st_yes (se_op os_mod (se_op os_add se_var se_var) se_int)) sa_nil)))) ss_next)) (ss_seq (ss_if (st_test (se_op os_ne se_var (se_tup sa_nil))) (ss_seq (ss_nput se_var se_var (se_op os_add (se_nget2 se_var se_var se_int) (se_cb cs_len (sa_cons se_var sa_nil)))) (ss_drop (se_bl_ ms_append se_var (sa_cons (se_op os_add (se_op os_add (se_tup (sa_cons (se_strS (by decide +kernel)) (sa_cons se_var sa_nil))) se_var) (se_tup (sa_cons se_var sa_nil))) sa_nil)))) ss_next) (ss_if (st_test (se_op os_ne se_var (se_tup sa_nil))) (ss_seq (ss_nput se_var se_var (se_op os_add (se_nget2 se_var se_var (se_tup sa_nil)) se_var)) (ss_drop (se_bl_ ms_append se_var (sa_cons (se_op os_add (se_op os_add (se_tup (sa_cons (se_strS (by decide +kernel)) (sa_cons se_var sa_nil))) se_var) (se_tup (sa_cons se_var sa_nil))) sa_nil)))) ss_next))))) (ss_drop (se_bl_ ms_append se_var (sa_cons (se_op os_add (se_op os_add (se_tup (sa_cons (se_strS (by decide +kernel)) (sa_cons se_var sa_nil))) se_var) (se_tup (sa_cons (se_op os_ix (se_lst (sa_cons (se_strS (by decide +kernel)) (sa_cons (se_strS (by decide +kernel)) (sa_cons (se_strS (by decide +kernel)) (sa_cons (se_strS (by decide +kernel)) (sa_cons (se_strS (by decide +kernel)) (sa_cons (se_strS (by decide +kernel)) sa_nil))))))) se_var) sa_nil))) sa_nil))))))))))) (ss_ret se_var)))))))
abbrev N_l_cells : List Str := ["_law_script", "_law_found", "_law_k", "_law_cell", "_law_one", "_law_mixed", "_law_number"]
theorem sc_l_cells : FnScope N_l_cells ["_law_script"] (defScope s_l_cells) := ⟨rfl, rfl, rfl, by decide +kernel, rfl, by decide +kernel, by decide +kernel⟩
theorem ok_l_cells {P : Program} {w : World} {K : PySem.W.Frag} {mg : Str → Option Value} {base : Heap} {a : Addr} {fd : FuncData} {ca : CaT} (T : Txt K mg ca) (F : Fun K "_law_cells" "_law_cells" s_l_cells a fd)  :
    FnOk P w K mg base (L2.CX P w) 1 a fd ["_law_script"] (SpF K ca F_l_cells) := by
  refine SM.Fn.ofF F sc_l_cells rfl fun cdv A outer s H E hr => ?_
  have nd := sc_l_cells.nd
  refine ⟨_, (pss_cons (ps_set (i := 1) nd rfl (by first | exact Or.inl rfl | exact Or.inr rfl) (pe_lst pa_nil)) (pss_cons (ps_for (passes_of rfl) rfl (pi_enumA (by rfl) T.b_enumerate (pa_cons (pe_slice (sl_U (K := K)) (pv 0) po_none (po_some pe_int)) pa_nil)) (pg_tup rfl (pgs_cons (pg_name (i := 2) nd rfl (by first | exact Or.inl rfl | exact Or.inr rfl)) (pgs_cons (pg_name (i := 3) nd rfl (by first | exact Or.inl rfl | exact Or.inr rfl)) pgs_nil))) (pss_cons (ps_set (i := 4) nd rfl (by first | exact Or.inl rfl | exact Or.inr rfl) (pe_op op_modU (pe_op (op_addU (K := K)) (pe_op (op_addU (K := K)) (pe_op (op_mulA (K := K)) (pv 3) pe_int) (pe_op (op_mulA (K := K)) pe_int (pv 2))) pe_int) pe_int)) (pss_cons (ps_set (i := 5) nd rfl (by first | exact Or.inl rfl | exact Or.inr rfl) (pe_op op_divU (pe_op op_modU (pe_op (op_mulA (K := K)) (pe_op op_modU (pe_op (op_mulA (K := K)) (pv 4) (pv 4)) pe_int) pe_int) pe_int) pe_int)) (pss_cons (ps_set (i := 6) nd rfl (by first | exact Or.inl rfl | exact Or.inr rfl) (pe_op op_divU (pv 3) pe_int)) (pss_cons (ps_if (pt_cmpR (op_eqPK (K := K) (DL.room65 hr)) (pe_op op_modU (pe_ix (ix_U (K := K)) (pv 0) pe_int (fun _ _ => rfl)) pe_int) pe_int (nomark _)) (pss_one (ps_set (i := 6) nd rfl (by first | exact Or.inl rfl | exact Or.inr rfl) (pv 5))) (pss_one (ps_if (pt_chain op_ltU op_ltU (pe_un un_neg pe_int) (pv 6) pe_int) (pss_one (ps_set (i := 6) nd rfl (by first | exact Or.inl rfl | exact Or.inr rfl) (pe_op (op_addU (K := K)) (pe_op op_modU (pv 6) pe_int) (pe_op (op_mulA (K := K)) pe_int (pv 5))))) pss_nil))) (pss_one (ps_expr (pe_bm PySem.F.plainAttrs_list PySem.F.slot_list_append PySem.F.type_list_append mt_append (pv 1) (pa_cons (pv 6) pa_nil))))))))) (pss_one (ps_ret (pv 1))))), ?_⟩
  exact (ss_seq (ss_set (se_lst sa_nil)) (ss_seq (ss_for (sw_enumA (se_sl sls_all se_var so_none (so_some se_int))) (sg_tup (sgs_cons sg_name (sgs_cons sg_name sgs_nil)) rfl) (ss_seq (ss_set (se_op os_mod (se_op os_add (se_op os_add (se_op os_mul se_var se_int) (se_op os_mul se_int se_var)) se_int) se_int)) (ss_seq (ss_set (se_op os_div (se_op os_mod (se_op os_mul (se_op os_mod (se_op os_mul se_var se_var) se_int) se_int) se_int) se_int)) (ss_seq (ss_set (se_op os_div se_var se_int)) (ss_seq (ss_if (st_test (se_op os_eq (se_op os_mod (se_op os_ix se_var se_int) se_int) se_int)) (ss_set se_var) (ss_if (st_test (se_ch os_lt os_lt (se_un us_neg se_int) se_var se_int)) (ss_set (se_op os_add (se_op os_mod se_var se_int) (se_op os_mul se_int se_var))) ss_next)) (ss_drop (se_bl_ ms_append se_var (sa_cons se_var sa_nil)))))))) (ss_ret se_var)))
abbrev N_l_bytes : List Str := ["_law_book_here", "_law_word", "_law_talk", "_law_found", "_law_line"]
theorem sc_l_bytes : FnScope N_l_bytes ["_law_book_here", "_law_word", "_law_talk"] (defScope s_l_bytes) := ⟨rfl, rfl, rfl, by decide +kernel, rfl, by decide +kernel, by decide +kernel⟩
theorem ok_l_bytes {P : Program} {w : World} {K : PySem.W.Frag} {mg : Str → Option Value} {base : Heap} {a : Addr} {fd : FuncData} {ca : CaT} (T : Txt K mg ca) (F : Fun K "_law_bytes" "_law_bytes" s_l_bytes a fd)  :
    FnOk P w K mg base (L2.CX P w) 1 a fd ["_law_book_here", "_law_word", "_law_talk"] (SpF K ca F_l_bytes) := by
  refine SM.Fn.ofF F sc_l_bytes rfl fun cdv A outer s H E hr => ?_
  have nd := sc_l_bytes.nd
  refine ⟨_, (pss_cons (ps_set (i := 3) nd rfl (by first | exact Or.inl rfl | exact Or.inr rfl) (pe_tup pa_nil)) (pss_cons (ps_for (passes_of rfl) rfl (pi_seqU (K := K) (pv 0)) (pg_name (i := 4) nd rfl (by first | exact Or.inl rfl | exact Or.inr rfl)) (pss_one (ps_if (PW.pt (pw_and (pt_cmpR (op_eqPK (K := K) (DL.room65 hr)) (pe_ix (ix_U (K := K)) (pv 4) pe_int (fun _ _ => rfl)) (pv 1) (nomark _)) (pw_and1 (pt_cmpR (op_eqPK (K := K) (DL.room65 hr)) (pe_slice (sl_U (K := K)) (pv 4) (po_some pe_int) (po_some pe_int)) (pv 2) (nomark _))))) (pss_one (ps_set (i := 3) nd rfl (by first | exact Or.inl rfl | exact Or.inr rfl) (pe_op (op_addU (K := K)) (pv 3) (pe_ix (ix_U (K := K)) (pv 4) pe_int (fun _ _ => rfl))))) pss_nil))) (pss_one (ps_ret (pv 3))))), ?_⟩
  exact (ss_seq (ss_set (se_tup sa_nil)) (ss_seq (ss_for (sw_seq se_var) sg_name (ss_if (st_and (st_test (se_op os_eq (se_op os_ix se_var se_int) se_var)) (st_test (se_op os_eq (se_sl sls_all se_var (so_some se_int) (so_some se_int)) se_var))) (ss_set (se_op os_add se_var (se_op os_ix se_var se_int))) ss_next)) (ss_ret se_var)))
abbrev N_l_partner : List Str := ["_law_line", "_law_word", "_law_tick", "_law_place", "_law_key", "_law_first", "_law_other"]
theorem sc_l_partner : FnScope N_l_partner ["_law_line"] (defScope s_l_partner) := ⟨rfl, rfl, rfl, by decide +kernel, rfl, by decide +kernel, by decide +kernel⟩
theorem ok_l_partner {P : Program} {w : World} {K : PySem.W.Frag} {mg : Str → Option Value} {base : Heap} {a : Addr} {fd : FuncData} {ca : CaT} (T : Txt K mg ca) (F : Fun K "_law_partner" "_law_partner" s_l_partner a fd)  :
    FnOk P w K mg base (L2.CX P w) 1 a fd ["_law_line"] (SpF K ca F_l_partner) := by
  refine SM.Fn.ofF F sc_l_partner rfl fun cdv A outer s H E hr => ?_
  have nd := sc_l_partner.nd
  refine ⟨_, (pss_cons (ps_asg (pv 0) (pg_tup rfl (pgs_cons (pg_name (i := 1) nd rfl (by first | exact Or.inl rfl | exact Or.inr rfl)) (pgs_cons (pg_name (i := 2) nd rfl (by first | exact Or.inl rfl | exact Or.inr rfl)) (pgs_cons (pg_name (i := 3) nd rfl (by first | exact Or.inl rfl | exact Or.inr rfl)) (pgs_cons (pg_name (i := 4) nd rfl (by first | exact Or.inl rfl | exact Or.inr rfl)) (pgs_cons (pg_name (i := 5) nd rfl (by first | exact Or.inl rfl | exact Or.inr rfl)) (pgs_cons (pg_name (i := 6) nd rfl (by first | exact Or.inl rfl | exact Or.inr rfl)) pgs_nil)))))))) (pss_one (ps_ret (pe_tup (pa_cons (pe_ix (ix_U (K := K)) (pv 4) pe_int (fun _ _ => rfl)) (pa_cons (pe_tup (pa_cons (pv 3) (pa_cons (pe_ix (ix_U (K := K)) (pv 4) pe_int (fun _ _ => rfl)) (pa_cons (pe_ix (ix_U (K := K)) (pv 4) pe_int (fun _ _ => rfl)) pa_nil)))) (pa_cons (pv 6) (pa_cons (pv 5) pa_nil)))))))), ?_⟩
  exact (ss_seq (ss_asg se_var (sg_tup (sgs_cons sg_name (sgs_cons sg_name (sgs_cons sg_name (sgs_cons sg_name (sgs_cons sg_name (sgs_cons sg_name sgs_nil)))))) rfl)) (ss_ret (se_tup (sa_cons (se_op os_ix se_var se_int) (sa_cons (se_tup (sa_cons se_var (sa_cons (se_op os_ix se_var se_int) (sa_cons (se_op os_ix se_var se_int) sa_nil)))) (sa_cons se_var (sa_cons se_var sa_nil)))))))
abbrev N_l_line_right : List Str := ["_law_book_here", "_law_number", "_law_line", "_law_ahead", "_law_one", "_law_own", "_law_talk", "_law_had"]
theorem sc_l_line_right : FnScope N_l_line_right ["_law_book_here", "_law_number"] (defScope s_l_line_right) := ⟨rfl, rfl, rfl, by decide +kernel, rfl, by decide +kernel, by decide +kernel⟩
theorem ok_l_line_right {P : Program} {w : World} {K : PySem.W.Frag} {mg : Str → Option Value} {base : Heap} {a : Addr} {fd : FuncData} {ca : CaT} (T : Txt K mg ca) (F : Fun K "_law_line_right" "_law_line_right" s_l_line_right a fd) (C_l_bytes : Dx P w K mg base 1 "_law_bytes" (SpF K ca F_l_bytes)) (C_l_partner : Dx P w K mg base 1 "_law_partner" (SpF K ca F_l_partner)) :
    FnOk P w K mg base (L2.CX P w) 2 a fd ["_law_book_here", "_law_number"] (SpF K ca F_l_line_right) := by
  refine SM.Fn.ofF F sc_l_line_right rfl fun cdv A outer s H E hr => ?_
  have nd := sc_l_line_right.nd
  refine ⟨_, (pss_cons (ps_set (i := 2) nd rfl (by first | exact Or.inl rfl | exact Or.inr rfl) (pe_ix (ix_U (K := K)) (pv 0) (pv 1) (fun _ _ => rfl))) (pss_cons (ps_setLc (i := 3) (own := [("_law_one", 4)]) (g := (gName 4)) rfl nd rfl rfl (sw_true rfl rfl rfl (by decide +kernel)) (pi_seqU (K := K) (pe_slice (sl_U (K := K)) (pv 0) po_none (po_some (pv 1)))) (blkOk_by (own := [("_law_one", 4)]) (N := N_l_line_right) (sc := defScope s_l_line_right) (by decide +kernel)) (fun _ _ _ _ _ => (pg_name (i := 4) nd rfl (by first | exact Or.inl rfl | exact Or.inr rfl))) (fun _ _ _ _ _ => (pts_one (pt_cmpR (op_eqPK (K := K) (DL.room65 hr)) (pe_ix (ix_U (K := K)) (pv 4) pe_int (fun _ _ => rfl)) pe_str (nomark _)))) (fun _ _ _ _ _ => (pv 4))) (pss_cons (ps_setLc (i := 5) (own := [("_law_one", 4)]) (g := (gName 4)) rfl nd rfl rfl (sw_true rfl rfl rfl (by decide +kernel)) (pi_seqU (K := K) (pv 3)) (blkOk_by (own := [("_law_one", 4)]) (N := N_l_line_right) (sc := defScope s_l_line_right) (by decide +kernel)) (fun _ _ _ _ _ => (pg_name (i := 4) nd rfl (by first | exact Or.inl rfl | exact Or.inr rfl))) (fun _ _ _ _ _ => (pts_one (pt_cmpR (op_eqPK (K := K) (DL.room65 hr)) (pe_slice (sl_U (K := K)) (pv 4) (po_some pe_int) (po_some pe_int)) (pe_slice (sl_U (K := K)) (pv 2) (po_some pe_int) (po_some pe_int)) (nomark _)))) (fun _ _ _ _ _ => (pv 4))) (pss_cons (ps_if (pt_cmpR (op_eqPK (K := K) (DL.room65 hr)) (pe_ix (ix_U (K := K)) (pv 2) pe_int (fun _ _ => rfl)) pe_str (nomark _)) (pss_one (ps_ret (pe_cmpR (op_eqPK (K := K) (DL.room65 hr)) (pv 5) (pe_lst pa_nil) (nomark _)))) pss_nil) (pss_cons (ps_if (pt_cmpR (op_nePK (K := K) (DL.room65 hr)) (pe_ix (ix_U (K := K)) (pv 2) pe_int (fun _ _ => rfl)) pe_str (nomark _)) (pss_one (ps_ret pe_bl)) pss_nil) (pss_cons (ps_if (PW.pt (pw_or (pt_cmpR (op_eqPK (K := K) (DL.room65 hr)) (pv 5) (pe_lst pa_nil) (nomark _)) (pw_or1 (pt_cmpR (op_notInAll (K := K) (DL.room65 hr)) (pe_dx C_l_partner (takes_of rfl rfl rfl rfl) hr (by decide) rfl (pa_cons (pe_ix (ix_U (K := K)) (pv 5) pe_int (fun _ _ => rfl)) pa_nil)) (pe_lc (own := [("_law_one", 4)]) (g := (gName 4)) rfl nd (pi_seqU (K := K) (pv 3)) (blkOk_by (own := [("_law_one", 4)]) (N := N_l_line_right) (sc := defScope s_l_line_right) (by decide +kernel)) (fun _ _ _ _ _ => (pg_name (i := 4) nd rfl (by first | exact Or.inl rfl | exact Or.inr rfl))) (fun _ _ _ _ _ => pts_nil) (fun _ _ _ _ _ => (pe_slice (sl_U (K := K)) (pv 4) (po_some pe_int) po_none))) rfl)))) (pss_one (ps_ret pe_bl)) pss_nil) (pss_cons (ps_set (i := 6) nd rfl (by first | exact Or.inl rfl | exact Or.inr rfl) (pe_slice (sl_U (K := K)) (pe_dx C_l_partner (takes_of rfl rfl rfl rfl) hr (by decide) rfl (pa_cons (pe_ix (ix_U (K := K)) (pv 5) pe_int (fun _ _ => rfl)) pa_nil)) po_none (po_some pe_int))) (pss_cons (ps_set (i := 7) nd rfl (by first | exact Or.inl rfl | exact Or.inr rfl) (pe_dx C_l_bytes (takes_of rfl rfl rfl rfl) hr (by decide) rfl (pa_cons (pe_slice (sl_U (K := K)) (pv 0) po_none (po_some (pe_op (op_addU (K := K)) (pv 1) pe_int))) (pa_cons pe_str (pa_cons (pe_slice (sl_U (K := K)) (pv 2) (po_some pe_int) (po_some pe_int)) pa_nil))))) (pss_one (ps_ret (pe_cmpR (op_eqPK (K := K) (DL.room65 hr)) (pe_slice (sl_U (K := K)) (pe_dx C_l_bytes (takes_of rfl rfl rfl rfl) hr (by decide) rfl (pa_cons (pe_slice (sl_U (K := K)) (pv 0) po_none (po_some (pv 1))) (pa_cons pe_str (pa_cons (pv 6) pa_nil)))) po_none (po_some (pe_callB (call_lenU (K := K)) (by rfl) T.b_len (by decide +kernel) (pa_cons (pv 7) pa_nil)))) (pv 7) (nomark _)))))))))))), ?_⟩
  exact (ss_seq (ss_set (se_op os_ix se_var se_var)) (ss_seq (ss_set (se_lc (W2 := fun _ _ _ _ => False) (sw_seq (se_sl sls_all se_var so_none (so_some se_var))) sg_name (by decide) (st_test (se_op os_eq (se_op os_ix se_var se_int) (se_strS (by decide +kernel)))) se_var)) (ss_seq (ss_set (se_lc (W2 := fun _ _ _ _ => False) (sw_seq se_var) sg_name (by decide) (st_test (se_op os_eq (se_sl sls_all se_var (so_some se_int) (so_some se_int)) (se_sl sls_all se_var (so_some se_int) (so_some se_int)))) se_var)) (ss_seq (ss_if (st_test (se_op os_eq (se_op os_ix se_var se_int) (se_strS (by decide +kernel)))) (ss_ret (se_op os_eq se_var (se_lst sa_nil))) ss_next) (ss_seq (ss_if (st_test (se_op os_ne (se_op os_ix se_var se_int) (se_strS (by decide +kernel)))) (ss_ret se_bl) ss_next) (ss_seq (ss_if (st_or (st_test (se_op os_eq se_var (se_lst sa_nil))) (st_test (se_op os_notin (se_call (sa_cons (se_op os_ix se_var se_int) sa_nil)) (se_lc (W2 := fun _ _ _ _ => False) (sw_seq se_var) sg_name (by decide) st_yes (se_sl sls_all se_var (so_some se_int) so_none))))) (ss_ret se_bl) ss_next) (ss_seq (ss_set (se_sl sls_all (se_call (sa_cons (se_op os_ix se_var se_int) sa_nil)) so_none (so_some se_int))) (ss_seq (ss_set (se_call (sa_cons (se_sl sls_all se_var so_none (so_some (se_op os_add se_var se_int))) (sa_cons (se_strS (by decide +kernel)) (sa_cons (se_sl sls_all se_var (so_some se_int) (so_some se_int)) sa_nil))))) (ss_ret (se_op os_eq (se_sl sls_all (se_call (sa_cons (se_sl sls_all se_var so_none (so_some se_var)) (sa_cons (se_strS (by decide +kernel)) (sa_cons se_var sa_nil)))) so_none (so_some (se_cb cs_len (sa_cons se_var sa_nil)))) se_var))))))))))
abbrev N_l_due : List Str := ["_law_book_here", "_law_wrong", "_law_number"]
theorem sc_l_due : FnScope N_l_due ["_law_book_here"] (defScope s_l_due) := ⟨rfl, rfl, rfl, by decide +kernel, rfl, by decide +kernel, by decide +kernel⟩
theorem ok_l_due {P : Program} {w : World} {K : PySem.W.Frag} {mg : Str → Option Value} {base : Heap} {a : Addr} {fd : FuncData} {ca : CaT} (T : Txt K mg ca) (F : Fun K "_law_due" "_law_due" s_l_due a fd) (C_l_line_right : Dx P w K mg base 2 "_law_line_right" (SpF K ca F_l_line_right)) :
    FnOk P w K mg base (L2.CX P w) 3 a fd ["_law_book_here"] (SpF K ca F_l_due) := by
  refine SM.Fn.ofF F sc_l_due rfl fun cdv A outer s H E hr => ?_
  have nd := sc_l_due.nd
  refine ⟨_, (pss_cons (ps_setLc (i := 1) (own := [("_law_number", 2)]) (g := (gName 2)) rfl nd rfl rfl (sw_true rfl rfl rfl (by decide +kernel)) (pi_range1 rfl T.b_range (pa_cons (pe_callB (call_lenU (K := K)) (by rfl) T.b_len (by decide +kernel) (pa_cons (pv 0) pa_nil)) pa_nil)) (blkOk_by (own := [("_law_number", 2)]) (N := N_l_due) (sc := defScope s_l_due) (by decide +kernel)) (fun _ _ _ _ _ => (pg_name (i := 2) nd rfl (by first | exact Or.inl rfl | exact Or.inr rfl))) (fun _ _ _ _ _ => (pts_one (pt_not (pt_val (pe_dx0 C_l_line_right hr (by decide) rfl (pa_cons (pv 0) (pa_cons (pv 2) pa_nil))))))) (fun _ _ _ _ _ => (pv 2))) (pss_one (ps_ret (pe_ix (ix_U (K := K)) (pe_op (op_addU (K := K)) (pv 1) (pe_lst (pa_cons pe_non pa_nil))) pe_int (fun _ _ => rfl))))), ?_⟩
  exact (ss_seq (ss_set (se_lc (W2 := fun _ _ _ _ => False) (sw_r1 (sa_cons (se_cb cs_len (sa_cons se_var sa_nil)) sa_nil)) sg_name (by decide) (st_not (st_b (se_call0 (sa_cons se_var (sa_cons se_var sa_nil))))) se_var)) (ss_ret (se_op os_ix (se_op os_add se_var (se_lst (sa_cons se_non sa_nil))) se_int)))
abbrev N_l_paper : List Str := ["_law_book_here", "_law_found", "_law_number", "_law_line", "_law_own", "_law_one", "_law_talk", "_law_some", "_law_k", "_law_place", "_law_had"]
theorem sc_l_paper : FnScope N_l_paper ["_law_book_here"] (defScope s_l_paper) := ⟨rfl, rfl, rfl, by decide +kernel, rfl, by decide +kernel, by decide +kernel⟩
theorem ok_l_paper {P : Program} {w : World} {K : PySem.W.Frag} {mg : Str → Option Value} {base : Heap} {a : Addr} {fd : FuncData} {ca : CaT} (T : Txt K mg ca) (F : Fun K "_law_paper" "_law_paper" s_l_paper a fd) (C_l_bytes : Dx P w K mg base 1 "_law_bytes" (SpF K ca F_l_bytes)) (C_l_partner : Dx P w K mg base 1 "_law_partner" (SpF K ca F_l_partner)) :
    FnOk P w K mg base (L2.CX P w) 2 a fd ["_law_book_here"] (SpF K ca F_l_paper) := by
  refine SM.Fn.ofF F sc_l_paper rfl fun cdv A outer s H E hr => ?_
  have nd := sc_l_paper.nd
  refine ⟨_, (pss_cons (ps_set (i := 1) nd rfl (by first | exact Or.inl rfl | exact Or.inr rfl) (pe_lst pa_nil)) (pss_cons (ps_for (passes_of rfl) rfl (pi_enumA (by rfl) T.b_enumerate (pa_cons (pv 0) pa_nil)) (pg_tup rfl (pgs_cons (pg_name (i := 2) nd rfl (by first | exact Or.inl rfl | exact Or.inr rfl)) (pgs_cons (pg_name (i := 3) nd rfl (by first | exact Or.inl rfl | exact Or.inr rfl)) pgs_nil))) (pss_cons (ps_if (pt_cmpR (op_nePK (K := K) (DL.room65 hr)) (pe_ix (ix_U (K := K)) (pv 3) pe_int (fun _ _ => rfl)) pe_str (nomark _)) (pss_one ps_continue) pss_nil) (pss_cons (ps_set (i := 4) nd rfl (by first | exact Or.inl rfl | exact Or.inr rfl) (pe_ix (ix_U (K := K)) (pe_lc (own := [("_law_one", 5)]) (g := (gName 5)) rfl nd (pi_seqU (K := K) (pe_slice (sl_U (K := K)) (pv 0) po_none (po_some (pv 2)))) (blkOk_by (own := [("_law_one", 5)]) (N := N_l_paper) (sc := defScope s_l_paper) (by decide +kernel)) (fun _ _ _ _ _ => (pg_name (i := 5) nd rfl (by first | exact Or.inl rfl | exact Or.inr rfl))) (fun _ _ _ _ _ => (pts_one (PW.pt (pw_and (pt_cmpR (op_eqPK (K := K) (DL.room65 hr)) (pe_ix (ix_U (K := K)) (pv 5) pe_int (fun _ _ => rfl)) pe_str (nomark _)) (pw_and1 (pt_cmpR (op_eqPK (K := K) (DL.room65 hr)) (pe_slice (sl_U (K := K)) (pv 5) (po_some pe_int) (po_some pe_int)) (pe_slice (sl_U (K := K)) (pv 3) (po_some pe_int) (po_some pe_int)) (nomark _))))))) (fun _ _ _ _ _ => (pv 5))) pe_int (fun _ _ => rfl))) (pss_cons (ps_set (i := 6) nd rfl (by first | exact Or.inl rfl | exact Or.inr rfl) (pe_slice (sl_U (K := K)) (pe_dx C_l_partner (takes_of rfl rfl rfl rfl) hr (by decide) rfl (pa_cons (pv 4) pa_nil)) po_none (po_some pe_int))) (pss_cons (ps_set (i := 7) nd rfl (by first | exact Or.inl rfl | exact Or.inr rfl) (pe_lst pa_nil)) (pss_cons (ps_for (passes_of rfl) rfl (pi_enumA (by rfl) T.b_enumerate (pa_cons (pe_slice (sl_U (K := K)) (pv 0) po_none (po_some (pv 2))) pa_nil)) (pg_tup rfl (pgs_cons (pg_name (i := 8) nd rfl (by first | exact Or.inl rfl | exact Or.inr rfl)) (pgs_cons (pg_name (i := 5) nd rfl (by first | exact Or.inl rfl | exact Or.inr rfl)) pgs_nil))) (pss_one (ps_if (PW.pt (pw_and (pt_cmpR (op_eqPK (K := K) (DL.room65 hr)) (pe_ix (ix_U (K := K)) (pv 5) pe_int (fun _ _ => rfl)) pe_str (nomark _)) (pw_and1 (pt_cmpR (op_eqPK (K := K) (DL.room65 hr)) (pe_slice (sl_U (K := K)) (pv 5) (po_some pe_int) (po_some pe_int)) (pv 6) (nomark _))))) (pss_one (ps_set (i := 7) nd rfl (by first | exact Or.inl rfl | exact Or.inr rfl) (pe_op (op_addU (K := K)) (pv 7) (pe_lc (own := [("_law_place", 9)]) (g := (gName 9)) rfl nd (pi_range1 rfl T.b_range (pa_cons (pe_callB (call_lenU (K := K)) (by rfl) T.b_len (by decide +kernel) (pa_cons (pe_ix (ix_U (K := K)) (pv 5) pe_int (fun _ _ => rfl)) pa_nil)) pa_nil)) (blkOk_by (own := [("_law_place", 9)]) (N := N_l_paper) (sc := defScope s_l_paper) (by decide +kernel)) (fun _ _ _ _ _ => (pg_name (i := 9) nd rfl (by first | exact Or.inl rfl | exact Or.inr rfl))) (fun _ _ _ _ _ => pts_nil) (fun _ _ _ _ _ => (pe_tup (pa_cons (pv 8) (pa_cons (pv 9) pa_nil)))))))) pss_nil))) (pss_cons (ps_set (i := 10) nd rfl (by first | exact Or.inl rfl | exact Or.inr rfl) (pe_callB (call_lenU (K := K)) (by rfl) T.b_len (by decide +kernel) (pa_cons (pe_dx C_l_bytes (takes_of rfl rfl rfl rfl) hr (by decide) rfl (pa_cons (pe_slice (sl_U (K := K)) (pv 0) po_none (po_some (pv 2))) (pa_cons pe_str (pa_cons (pe_slice (sl_U (K := K)) (pv 3) (po_some pe_int) (po_some pe_int)) pa_nil)))) pa_nil))) (pss_one (ps_expr (pe_bm PySem.F.plainAttrs_list PySem.F.slot_list_append PySem.F.type_list_append mt_append (pv 1) (pa_cons (pe_slice (sl_U (K := K)) (pv 7) (po_some (pv 10)) (po_some (pe_op (op_addU (K := K)) (pv 10) (pe_callB (call_lenU (K := K)) (by rfl) T.b_len (by decide +kernel) (pa_cons (pe_ix (ix_U (K := K)) (pv 3) pe_int (fun _ _ => rfl)) pa_nil))))) pa_nil))))))))))) (pss_one (ps_ret (pv 1))))), ?_⟩
  exact (ss_seq (ss_set (se_lst sa_nil)) (ss_seq (ss_for (sw_enumA se_var) (sg_tup (sgs_cons sg_name (sgs_cons sg_name sgs_nil)) rfl) (ss_seq (ss_if (st_test (se_op os_ne (se_op os_ix se_var se_int) (se_strS (by decide +kernel)))) ss_cont ss_next) (ss_seq (ss_set (se_op os_ix (se_lc (W2 := fun _ _ _ _ => False) (sw_seq (se_sl sls_all se_var so_none (so_some se_var))) sg_name (by decide) (st_and (st_test (se_op os_eq (se_op os_ix se_var se_int) (se_strS (by decide +kernel)))) (st_test (se_op os_eq (se_sl sls_all se_var (so_some se_int) (so_some se_int)) (se_sl sls_all se_var (so_some se_int) (so_some se_int))))) se_var) se_int)) (ss_seq (ss_set (se_sl sls_all (se_call (sa_cons se_var sa_nil)) so_none (so_some se_int))) (ss_seq (ss_set (se_lst sa_nil)) (ss_seq (ss_for (sw_enumA (se_sl sls_all se_var so_none (so_some se_var))) (sg_tup (sgs_cons sg_name (sgs_cons sg_name sgs_nil)) rfl) (ss_if (st_and (st_test (se_op os_eq (se_op os_ix se_var se_int) (se_strS (by decide +kernel)))) (st_test (se_op os_eq (se_sl sls_all se_var (so_some se_int) (so_some se_int)) se_var))) (ss_set (se_op os_add se_var (se_lc (W2 := fun _ _ _ _ => False) (sw_r1 (sa_cons (se_cb cs_len (sa_cons (se_op os_ix se_var se_int) sa_nil)) sa_nil)) sg_name (by decide) st_yes (se_tup (sa_cons se_var (sa_cons se_var sa_nil)))))) ss_next)) (ss_seq (ss_set (se_cb cs_len (sa_cons (se_call (sa_cons (se_sl sls_all se_var so_none (so_some se_var)) (sa_cons (se_strS (by decide +kernel)) (sa_cons (se_sl sls_all se_var (so_some se_int) (so_some se_int)) sa_nil)))) sa_nil))) (ss_drop (se_bl_ ms_append se_var (sa_cons (se_sl sls_all se_var (so_some se_var) (so_some (se_op os_add se_var (se_cb cs_len (sa_cons (se_op os_ix se_var se_int) sa_nil))))) sa_nil)))))))))) (ss_ret se_var)))
abbrev N_l_same : List Str := ["_law_thing", "_law_paper_here"]
theorem sc_l_same : FnScope N_l_same ["_law_thing", "_law_paper_here"] (defScope s_l_same) := ⟨rfl, rfl, rfl, by decide +kernel, rfl, by decide +kernel, by decide +kernel⟩
theorem ok_l_same {P : Program} {w : World} {K : PySem.W.Frag} {mg : Str → Option Value} {base : Heap} {a : Addr} {fd : FuncData} {ca : CaT} (T : Txt K mg ca) (F : Fun K "_law_same" "_law_same" s_l_same a fd)  :
    L2.FnG P w K mg base (L2.CX P w) 1 a fd ["_law_thing", "_law_paper_here"] (SpF K ca F_l_same) := by
  refine SM.Fn.ofG F sc_l_same rfl fun cdv A outer s H E hgd hr => ?_
  have nd := sc_l_same.nd
  refine ⟨_, (pss_one (ps_ret (pe_and (pe_cmpR (L2.op_eqX (K := K) (DL.room65 hr)) (pv 0) (pv 1) (nomark _)) (pe_one (pe_cmpR (op_eqPK (K := K) (DL.room65 hr)) (pe_callB (L2.call_reprZ hgd (DL.room65 hr)) (by rfl) T.b_repr (by decide +kernel) (pa_cons (pv 0) pa_nil)) (pe_callB (L2.call_reprZ hgd (DL.room65 hr)) (by rfl) T.b_repr (by decide +kernel) (pa_cons (pv 1) pa_nil)) (nomark _)))))), ?_⟩
  exact (ss_ret (se_and (se_op os_eqX se_var se_var) (se_op os_eq (se_cb cs_repr (sa_cons se_var sa_nil)) (se_cb cs_repr (sa_cons se_var sa_nil)))))
abbrev N_l_spoilt : List Str := ["_law_paper_here", "_law_cell", "_law_kind", "_law_at", "_law_place", "_law_row", "_law_line", "_law_there", "_law_others"]
theorem sc_l_spoilt : FnScope N_l_spoilt ["_law_paper_here", "_law_cell"] (defScope s_l_spoilt) := ⟨rfl, rfl, rfl, by decide +kernel, rfl, by decide +kernel, by decide +kernel⟩
theorem ok_l_spoilt {P : Program} {w : World} {K : PySem.W.Frag} {mg : Str → Option Value} {base : Heap} {a : Addr} {fd : FuncData} {ca : CaT} (T : Txt K mg ca) (F : Fun K "_law_spoilt" "_law_spoilt" s_l_spoilt a fd) (C_l_digits : Dx P w K mg base 1 "_law_digits" (SpF K ca F_l_digits)) :
    FnOk P w K mg base (L2.CX P w) 2 a fd ["_law_paper_here", "_law_cell"] (SpF K ca F_l_spoilt) := by
  refine SM.Fn.ofF F sc_l_spoilt rfl fun cdv A outer s H E hr => ?_
  have nd := sc_l_spoilt.nd
  refine ⟨_, (pss_cons (ps_asg (pe_dx C_l_digits (takes_of rfl rfl rfl rfl) hr (by decide) rfl (pa_cons (pv 1) (pa_cons (pe_lst (pa_cons pe_int (pa_cons (pe_callB (call_max2U rfl) (by rfl) T.b_max (by decide +kernel) (pa_cons pe_int (pa_cons (pe_callB (call_lenU (K := K)) (by rfl) T.b_len (by decide +kernel) (pa_cons (pv 0) pa_nil)) pa_nil))) (pa_cons pe_int pa_nil)))) pa_nil))) (pg_lst rfl (pgs_cons (pg_name (i := 2) nd rfl (by first | exact Or.inl rfl | exact Or.inr rfl)) (pgs_cons (pg_name (i := 3) nd rfl (by first | exact Or.inl rfl | exact Or.inr rfl)) (pgs_cons (pg_name (i := 4) nd rfl (by first | exact Or.inl rfl | exact Or.inr rfl)) pgs_nil))))) (pss_cons (ps_if (PW.pt (pw_or (pt_cmpR (op_eqPK (K := K) (DL.room65 hr)) (pv 2) pe_int (nomark _)) (pw_or1 (pt_cmpR (op_eqPK (K := K) (DL.room65 hr)) (pv 0) (pe_lst pa_nil) (nomark _))))) (pss_one (ps_ret (pe_ix (ix_U (K := K)) (pe_lst (pa_cons pe_non (pa_cons (pe_tup pa_nil) (pa_cons pe_dnewK (pa_cons pe_str (pa_cons pe_int (pa_cons (pe_lst (pa_cons (pe_lst pa_nil) pa_nil)) (pa_cons (pe_lst (pa_cons pe_non pa_nil)) (pa_cons (pe_lst (pa_cons (pv 0) pa_nil)) pa_nil))))))))) (pe_op op_modU (pe_op op_divU (pv 1) pe_int) pe_int) (fun _ _ => rfl)))) pss_nil) (pss_cons (ps_set (i := 5) nd rfl (by first | exact Or.inl rfl | exact Or.inr rfl) (pe_ix (ix_U (K := K)) (pv 0) (pv 3) (fun _ _ => rfl))) (pss_cons (ps_set (i := 4) nd rfl (by first | exact Or.inl rfl | exact Or.inr rfl) (pe_op op_modU (pv 4) (pe_callB (call_lenU (K := K)) (by rfl) T.b_len (by decide +kernel) (pa_cons (pv 5) pa_nil)))) (pss_cons (ps_asg (pe_ix (ix_U (K := K)) (pv 5) (pv 4) (fun _ _ => rfl)) (pg_tup rfl (pgs_cons (pg_name (i := 6) nd rfl (by first | exact Or.inl rfl | exact Or.inr rfl)) (pgs_cons (pg_name (i := 7) nd rfl (by first | exact Or.inl rfl | exact Or.inr rfl)) pgs_nil)))) (pss_cons (ps_set (i := 8) nd rfl (by first | exact Or.inl rfl | exact Or.inr rfl) (pe_lst (pa_cons (pe_tup (pa_cons (pe_op (op_addU (K := K)) (pv 6) pe_int) (pa_cons (pv 7) pa_nil))) (pa_cons (pe_tup (pa_cons (pv 6) (pa_cons (pe_op (op_addU (K := K)) (pv 7) pe_int) pa_nil))) (pa_cons (pe_tup (pa_cons (pv 6) (pa_cons (pv 7) (pa_cons pe_int pa_nil)))) (pa_cons (pe_lst (pa_cons (pv 6) (pa_cons (pv 7) pa_nil))) (pa_cons (pe_tup (pa_cons (pv 6) (pa_cons pe_non pa_nil))) (pa_cons (pe_tup (pa_cons pe_str (pa_cons (pv 7) pa_nil))) pa_nil)))))))) (pss_cons (ps_if (pt_cmpR op_ltU (pv 2) pe_int (nomark _)) (pss_one (ps_set (i := 5) nd rfl (by first | exact Or.inl rfl | exact Or.inr rfl) (pe_op (op_addU (K := K)) (pe_op (op_addU (K := K)) (pe_slice (sl_U (K := K)) (pv 5) po_none (po_some (pv 4))) (pe_lst (pa_cons (pe_ix (ix_U (K := K)) (pv 8) (pe_op op_subU (pv 2) pe_int) (fun _ _ => rfl)) pa_nil))) (pe_slice (sl_U (K := K)) (pv 5) (po_some (pe_op (op_addU (K := K)) (pv 4) pe_int)) po_none)))) (pss_one (ps_if (pt_cmpR (op_eqPK (K := K) (DL.room65 hr)) (pv 2) pe_int (nomark _)) (pss_one (ps_set (i := 5) nd rfl (by first | exact Or.inl rfl | exact Or.inr rfl) (pe_op (op_addU (K := K)) (pe_slice (sl_U (K := K)) (pv 5) po_none (po_some (pv 4))) (pe_slice (sl_U (K := K)) (pv 5) (po_some (pe_op (op_addU (K := K)) (pv 4) pe_int)) po_none)))) (pss_one (ps_if (pt_cmpR (op_eqPK (K := K) (DL.room65 hr)) (pv 2) pe_int (nomark _)) (pss_one (ps_set (i := 5) nd rfl (by first | exact Or.inl rfl | exact Or.inr rfl) (pe_callTy (call_tupleU (K := K)) (by rfl) T.b_tuple (by decide +kernel) (pa_cons (pv 5) pa_nil)))) (pss_one (ps_if (pt_cmpR (op_eqPK (K := K) (DL.room65 hr)) (pv 2) pe_int (nomark _)) (pss_one (ps_set (i := 5) nd rfl (by first | exact Or.inl rfl | exact Or.inr rfl) (pe_op (op_addU (K := K)) (pv 5) (pe_slice (sl_U (K := K)) (pv 5) (po_some (pv 4)) (po_some (pe_op (op_addU (K := K)) (pv 4) pe_int)))))) (pss_one (ps_set (i := 5) nd rfl (by first | exact Or.inl rfl | exact Or.inr rfl) (pe_op (op_addU (K := K)) (pe_op (op_addU (K := K)) (pe_slice (sl_U (K := K)) (pv 5) po_none (po_some (pv 4))) (pe_lst (pa_cons (pe_tup (pa_cons (pe_ifExp (pt_cmpR op_gtU (pv 6) pe_int (nomark _)) (pv 6) (pe_cmpR (op_eqPK (K := K) (DL.room65 hr)) (pv 6) pe_int (nomark _))) (pa_cons (pe_ifExp (pt_cmpR op_gtU (pv 7) pe_int (nomark _)) (pv 7) (pe_cmpR (op_eqPK (K := K) (DL.room65 hr)) (pv 7) pe_int (nomark _))) pa_nil))) pa_nil))) (pe_slice (sl_U (K := K)) (pv 5) (po_some (pe_op (op_addU (K := K)) (pv 4) pe_int)) po_none))))))))))) (pss_one (ps_ret (pe_op (op_addU (K := K)) (pe_op (op_addU (K := K)) (pe_slice (sl_U (K := K)) (pv 0) po_none (po_some (pv 3))) (pe_lst (pa_cons (pv 5) pa_nil))) (pe_slice (sl_U (K := K)) (pv 0) (po_some (pe_op (op_addU (K := K)) (pv 3) pe_int)) po_none))))))))))), ?_⟩
  exact (ss_seq (ss_asg (se_call (sa_cons se_var (sa_cons (se_lst (sa_cons se_int (sa_cons (se_cb cs_max2 (sa_cons se_int (sa_cons (se_cb cs_len (sa_cons se_var sa_nil)) sa_nil))) (sa_cons se_int sa_nil)))) sa_nil))) (sg_lst (sgs_cons sg_name (sgs_cons sg_name (sgs_cons sg_name sgs_nil))) rfl)) (ss_seq (ss_if (st_or (st_test (se_op os_eq se_var se_int)) (st_test (se_op os_eq se_var (se_lst sa_nil)))) (ss_ret (se_op os_ix (se_lst (sa_cons se_non (sa_cons (se_tup sa_nil) (sa_cons se_dnewK (sa_cons (se_strS (by decide +kernel)) (sa_cons se_int (sa_cons (se_lst (sa_cons (se_lst sa_nil) sa_nil)) (sa_cons (se_lst (sa_cons se_non sa_nil)) (sa_cons (se_lst (sa_cons se_var sa_nil)) sa_nil))))))))) (se_op os_mod (se_op os_div se_var se_int) se_int))) ss_next) (ss_seq (ss_set (se_op os_ix se_var se_var)) (ss_seq (ss_set (se_op os_mod se_var (se_cb cs_len (sa_cons se_var sa_nil)))) (ss_seq (ss_asg (se_op os_ix se_var se_var) (sg_tup (sgs_cons sg_name (sgs_cons sg_name sgs_nil)) rfl)) (ss_seq (ss_set (se_lst (sa_cons (se_tup (sa_cons (se_op os_add se_var se_int) (sa_cons se_var sa_nil))) (sa_cons (se_tup (sa_cons se_var (sa_cons (se_op os_add se_var se_int) sa_nil))) (sa_cons (se_tup (sa_cons se_var (sa_cons se_var (sa_cons se_int sa_nil)))) (sa_cons (se_lst (sa_cons se_var (sa_cons se_var sa_nil))) (sa_cons (se_tup (sa_cons se_var (sa_cons se_non sa_nil))) (sa_cons (se_tup (sa_cons (se_strS (by decide +kernel)) (sa_cons se_var sa_nil))) sa_nil)))))))) (ss_seq (ss_if (st_test (se_op os_lt se_var se_int)) (ss_set (se_op os_add (se_op os_add (se_sl sls_all se_var so_none (so_some se_var)) (se_lst (sa_cons (se_op os_ix se_var (se_op os_sub se_var se_int)) sa_nil))) (se_sl sls_all se_var (so_some (se_op os_add se_var se_int)) so_none))) (ss_if (st_test (se_op os_eq se_var se_int)) (ss_set (se_op os_add (se_sl sls_all se_var so_none (so_some se_var)) (se_sl sls_all se_var (so_some (se_op os_add se_var se_int)) so_none))) (ss_if (st_test (se_op os_eq se_var se_int)) (ss_set (se_cb cs_tuple (sa_cons se_var sa_nil))) (ss_if (st_test (se_op os_eq se_var se_int)) (ss_set (se_op os_add se_var (se_sl sls_all se_var (so_some se_var) (so_some (se_op os_add se_var se_int))))) (ss_set (se_op os_add (se_op os_add (se_sl sls_all se_var so_none (so_some se_var)) (se_lst (sa_cons (se_tup (sa_cons (se_if (st_test (se_op os_gt se_var se_int)) se_var (se_op os_eq se_var se_int)) (sa_cons (se_if (st_test (se_op os_gt se_var se_int)) se_var (se_op os_eq se_var se_int)) sa_nil))) sa_nil))) (se_sl sls_all se_var (so_some (se_op os_add se_var se_int)) so_none))))))) (ss_ret (se_op os_add (se_op os_add (se_sl sls_all se_var so_none (so_some se_var)) (se_lst (sa_cons se_var sa_nil))) (se_sl sls_all se_var (so_some (se_op os_add se_var se_int)) so_none))))))))))
abbrev N_Judge___init__ : List Str := ["self"]
theorem sc_Judge___init__ : FnScope N_Judge___init__ ["self"] (defScope s_Judge___init__) := ⟨rfl, rfl, rfl, by decide +kernel, rfl, by decide +kernel, by decide +kernel⟩
theorem ok_Judge___init__ {P : Program} {w : World} {K : PySem.W.Frag} {mg : Str → Option Value} {base : Heap} {a : Addr} {fd : FuncData} {ca : CaT} (T : Txt K mg ca) (F : Fun K "__init__" "Judge.__init__" s_Judge___init__ a fd)  :
    FnOk P w K mg base (L2.CX P w) 1 a fd ["self"] (SpF K ca F_Judge___init__) := by
  refine SM.Fn.ofF F sc_Judge___init__ rfl fun cdv A outer s H E hr => ?_
  have nd := sc_Judge___init__.nd
  refine ⟨_, (pss_cons (ps_fld (pv 0) L2.pe_dnewN rfl) (pss_cons (ps_fld (pv 0) L2.pe_dnewN rfl) (pss_one (ps_fld (pv 0) L2.pe_dnewN rfl)))), ?_⟩
  exact (ss_seq (ss_fl (by decide +kernel) ⟨⟨T.cl_Judge, T.n_Judge_openings⟩, trivial⟩ se_var se_nnew) (ss_seq (ss_fl (by decide +kernel) ⟨⟨T.cl_Judge, T.n_Judge_written⟩, trivial⟩ se_var se_nnew) (ss_fl (by decide +kernel) ⟨⟨T.cl_Judge, T.n_Judge_had⟩, trivial⟩ se_var se_nnew)))
abbrev N_partner_of : List Str := ["talk", "other", "place", "key", "first"]
theorem sc_partner_of : FnScope N_partner_of ["talk", "other"] (defScope s_partner_of) := ⟨rfl, rfl, rfl, by decide +kernel, rfl, by decide +kernel, by decide +kernel⟩
theorem ok_partner_of {P : Program} {w : World} {K : PySem.W.Frag} {mg : Str → Option Value} {base : Heap} {a : Addr} {fd : FuncData} {ca : CaT} (T : Txt K mg ca) (F : Fun K "partner_of" "partner_of" s_partner_of a fd)  :
    FnOk P w K mg base (L2.CX P w) 1 a fd ["talk", "other"] (SpF K ca F_partner_of) := by
  refine SM.Fn.ofF F sc_partner_of rfl fun cdv A outer s H E hr => ?_
  have nd := sc_partner_of.nd
  refine ⟨_, (pss_cons (ps_asg (pv 0) (pg_tup rfl (pgs_cons (pg_name (i := 2) nd rfl (by first | exact Or.inl rfl | exact Or.inr rfl)) (pgs_cons (pg_name (i := 3) nd rfl (by first | exact Or.inl rfl | exact Or.inr rfl)) (pgs_cons (pg_name (i := 4) nd rfl (by first | exact Or.inl rfl | exact Or.inr rfl)) pgs_nil))))) (pss_one (ps_ret (pe_tup (pa_cons (pe_ix (ix_U (K := K)) (pv 3) pe_int (fun _ _ => rfl)) (pa_cons (pe_tup (pa_cons (pv 2) (pa_cons (pe_ix (ix_U (K := K)) (pv 3) pe_int (fun _ _ => rfl)) (pa_cons (pe_ix (ix_U (K := K)) (pv 3) pe_int (fun _ _ => rfl)) pa_nil)))) (pa_cons (pv 1) pa_nil))))))), ?_⟩
  exact (ss_seq (ss_asg se_var (sg_tup (sgs_cons sg_name (sgs_cons sg_name (sgs_cons sg_name sgs_nil))) rfl)) (ss_ret (se_tup (sa_cons (se_op os_ix se_var se_int) (sa_cons (se_tup (sa_cons se_var (sa_cons (se_op os_ix se_var se_int) (sa_cons (se_op os_ix se_var se_int) sa_nil)))) (sa_cons se_var sa_nil))))))
abbrev N_Judge_source_of : List Str := ["self", "talk", "partner"]
theorem sc_Judge_source_of : FnScope N_Judge_source_of ["self", "talk"] (defScope s_Judge_source_of) := ⟨rfl, rfl, rfl, by decide +kernel, rfl, by decide +kernel, by decide +kernel⟩
theorem ok_Judge_source_of {P : Program} {w : World} {K : PySem.W.Frag} {mg : Str → Option Value} {base : Heap} {a : Addr} {fd : FuncData} {ca : CaT} (T : Txt K mg ca) (F : Fun K "source_of" "Judge.source_of" s_Judge_source_of a fd) (C_partner_of : Dx P w K mg base 1 "partner_of" (SpF K ca F_partner_of)) :
    FnOk P w K mg base (L2.CX P w) 2 a fd ["self", "talk"] (SpF K ca F_Judge_source_of) := by
  refine SM.Fn.ofF F sc_Judge_source_of rfl fun cdv A outer s H E hr => ?_
  have nd := sc_Judge_source_of.nd
  refine ⟨_, (pss_cons (ps_if (pt_cmpR (L2.op_notInN (DL.room65 hr)) (pv 1) (pe_fld (pv 0) rfl) rfl) (pss_one (ps_ret pe_non)) pss_nil) (pss_cons (ps_set (i := 2) nd rfl (by first | exact Or.inl rfl | exact Or.inr rfl) (pe_dx C_partner_of (takes_of rfl rfl rfl rfl) hr (by decide) rfl (pa_cons (pv 1) (pa_cons (L2.pe_nget (DL.room65 hr) (pe_fld (pv 0) rfl) (pv 1) (fun _ _ => rfl)) pa_nil)))) (pss_cons (ps_if (pt_cmpR (op_nePK (K := K) (DL.room65 hr)) (L2.pe_nget1 (DL.room65 hr) (pe_fld (pv 0) rfl) (pv 2) ⟨rfl, rfl, rfl, rfl⟩) (pe_ix (ix_U (K := K)) (pv 1) pe_int (fun _ _ => rfl)) (nomark _)) (pss_one (ps_ret pe_non)) pss_nil) (pss_one (ps_ret (pv 2)))))), ?_⟩
  exact (ss_seq (ss_if (st_test (se_op os_nin se_var (se_fld (by decide +kernel) ⟨⟨T.cl_Judge, T.n_Judge_openings⟩, trivial⟩ se_var))) (ss_ret se_non) ss_next) (ss_seq (ss_set (se_call (sa_cons se_var (sa_cons (se_op os_nget (se_fld (by decide +kernel) ⟨⟨T.cl_Judge, T.n_Judge_openings⟩, trivial⟩ se_var) se_var) sa_nil)))) (ss_seq (ss_if (st_test (se_op os_ne (se_nget1 (se_fld (by decide +kernel) ⟨⟨T.cl_Judge, T.n_Judge_openings⟩, trivial⟩ se_var) se_var) (se_op os_ix se_var se_int))) (ss_ret se_non) ss_next) (ss_ret se_var))))
abbrev N_Judge_read_right : List Str := ["self", "talk", "data", "source", "had"]
theorem sc_Judge_read_right : FnScope N_Judge_read_right ["self", "talk", "data"] (defScope s_Judge_read_right) := ⟨rfl, rfl, rfl, by decide +kernel, rfl, by decide +kernel, by decide +kernel⟩
theorem ok_Judge_read_right {P : Program} {w : World} {K : PySem.W.Frag} {mg : Str → Option Value} {base : Heap} {a : Addr} {fd : FuncData} {ca : CaT} (T : Txt K mg ca) (F : Fun K "read_right" "Judge.read_right" s_Judge_read_right a fd) (M_Judge_source_of : SM.Mt P w K mg base 2 (ca "Judge") "source_of" (SpF K ca F_Judge_source_of)) :
    FnOk P w K mg base (L2.CX P w) 3 a fd ["self", "talk", "data"] (SpF K ca F_Judge_read_right) := by
  refine SM.Fn.ofF F sc_Judge_read_right rfl fun cdv A outer s H E hr => ?_
  have nd := sc_Judge_read_right.nd
  refine ⟨_, (pss_cons (ps_set (i := 3) nd rfl (by first | exact Or.inl rfl | exact Or.inr rfl) (pe_mtX M_Judge_source_of (takes_of rfl rfl rfl rfl) hr (by decide) T.cl_Judge (pv 0) (pa_cons (pv 1) pa_nil))) (pss_cons (ps_if (pt_cmpR op_isU (pv 3) pe_non (nomark _)) (pss_one (ps_ret pe_bl)) pss_nil) (pss_cons (ps_set (i := 4) nd rfl (by first | exact Or.inl rfl | exact Or.inr rfl) (pe_op (op_addU (K := K)) (L2.pe_nget2 (DL.room65 hr) (pe_fld (pv 0) rfl) (pv 1) (pe_tup pa_nil) ⟨rfl, rfl, rfl, rfl⟩) (pv 2))) (pss_cons (L2.ps_nput (DL.room65 hr) (pe_fld (pv 0) rfl) (pv 1) (pv 4) rfl) (pss_one (ps_ret (pe_cmpR (op_eqPK (K := K) (DL.room65 hr)) (pe_slice (sl_U (K := K)) (L2.pe_nget2 (DL.room65 hr) (pe_fld (pv 0) rfl) (pv 3) (pe_tup pa_nil) ⟨rfl, rfl, rfl, rfl⟩) po_none (po_some (pe_callB (call_lenU (K := K)) (by rfl) T.b_len (by decide +kernel) (pa_cons (pv 4) pa_nil)))) (pv 4) (nomark _)))))))), ?_⟩
  exact (ss_seq (ss_set (meth_one (by decide +kernel) se_var (sa_cons se_var sa_nil))) (ss_seq (ss_if (st_test (se_op os_is se_var se_non)) (ss_ret se_bl) ss_next) (ss_seq (ss_set (se_op os_add (se_nget2 (se_fld (by decide +kernel) ⟨⟨T.cl_Judge, T.n_Judge_had⟩, trivial⟩ se_var) se_var (se_tup sa_nil)) se_var)) (ss_seq (ss_nput (se_fld (by decide +kernel) ⟨⟨T.cl_Judge, T.n_Judge_had⟩, trivial⟩ se_var) se_var se_var) (ss_ret (se_op os_eq (se_sl sls_all (se_nget2 (se_fld (by decide +kernel) ⟨⟨T.cl_Judge, T.n_Judge_written⟩, trivial⟩ se_var) se_var (se_tup sa_nil)) so_none (so_some (se_cb cs_len (sa_cons se_var sa_nil)))) se_var))))))
abbrev N_talk_of : List Str := ["line"]
theorem sc_talk_of : FnScope N_talk_of ["line"] (defScope s_talk_of) := ⟨rfl, rfl, rfl, by decide +kernel, rfl, by decide +kernel, by decide +kernel⟩
theorem ok_talk_of {P : Program} {w : World} {K : PySem.W.Frag} {mg : Str → Option Value} {base : Heap} {a : Addr} {fd : FuncData} {ca : CaT} (T : Txt K mg ca) (F : Fun K "talk_of" "talk_of" s_talk_of a fd)  :
    FnOk P w K mg base (L2.CX P w) 1 a fd ["line"] (SpF K ca F_talk_of) := by
  refine SM.Fn.ofF F sc_talk_of rfl fun cdv A outer s H E hr => ?_
  have nd := sc_talk_of.nd
  refine ⟨_, (pss_one (ps_ret (pe_tup (pa_cons (pe_ix (ix_U (K := K)) (pv 0) pe_int (fun _ _ => rfl)) (pa_cons (pe_ix (ix_U (K := K)) (pv 0) pe_int (fun _ _ => rfl)) (pa_cons (pe_ix (ix_U (K := K)) (pv 0) pe_int (fun _ _ => rfl)) pa_nil)))))), ?_⟩
  exact (ss_ret (se_tup (sa_cons (se_op os_ix se_var se_int) (sa_cons (se_op os_ix se_var se_int) (sa_cons (se_op os_ix se_var se_int) sa_nil)))))
abbrev N_Judge_follow : List Str := ["self", "line", "talk", "twice"]
theorem sc_Judge_follow : FnScope N_Judge_follow ["self", "line"] (defScope s_Judge_follow) := ⟨rfl, rfl, rfl, by decide +kernel, rfl, by decide +kernel, by decide +kernel⟩
theorem ok_Judge_follow {P : Program} {w : World} {K : PySem.W.Frag} {mg : Str → Option Value} {base : Heap} {a : Addr} {fd : FuncData} {ca : CaT} (T : Txt K mg ca) (F : Fun K "follow" "Judge.follow" s_Judge_follow a fd) (M_Judge_read_right : SM.Mt P w K mg base 3 (ca "Judge") "read_right" (SpF K ca F_Judge_read_right)) (C_talk_of : Dx P w K mg base 1 "talk_of" (SpF K ca F_talk_of)) :
    FnOk P w K mg base (L2.CX P w) 4 a fd ["self", "line"] (SpF K ca F_Judge_follow) := by
  refine SM.Fn.ofF F sc_Judge_follow rfl fun cdv A outer s H E hr => ?_
  have nd := sc_Judge_follow.nd
  refine ⟨_, (pss_cons (ps_set (i := 2) nd rfl (by first | exact Or.inl rfl | exact Or.inr rfl) (pe_dx C_talk_of (takes_of rfl rfl rfl rfl) hr (by decide) rfl (pa_cons (pv 1) pa_nil))) (pss_cons (ps_if (pt_cmpR (op_eqPK (K := K) (DL.room65 hr)) (pe_ix (ix_U (K := K)) (pv 1) pe_int (fun _ _ => rfl)) pe_str (nomark _)) (pss_cons (ps_set (i := 3) nd rfl (by first | exact Or.inl rfl | exact Or.inr rfl) (pe_cmpR (L2.op_inN (DL.room65 hr)) (pv 2) (pe_fld (pv 0) rfl) rfl)) (pss_cons (L2.ps_nput (DL.room65 hr) (pe_fld (pv 0) rfl) (pv 2) (pe_ix (ix_U (K := K)) (pv 1) pe_int (fun _ _ => rfl)) rfl) (pss_one (ps_ret (pe_not (pv 3)))))) pss_nil) (pss_cons (ps_if (pt_cmpR (op_eqPK (K := K) (DL.room65 hr)) (pe_ix (ix_U (K := K)) (pv 1) pe_int (fun _ _ => rfl)) pe_str (nomark _)) (pss_one (L2.ps_nput (DL.room65 hr) (pe_fld (pv 0) rfl) (pv 2) (pe_op (op_addU (K := K)) (L2.pe_nget2 (DL.room65 hr) (pe_fld (pv 0) rfl) (pv 2) (pe_tup pa_nil) ⟨rfl, rfl, rfl, rfl⟩) (pe_ix (ix_U (K := K)) (pv 1) pe_int (fun _ _ => rfl))) rfl)) pss_nil) (pss_cons (ps_if (pt_cmpR (op_eqPK (K := K) (DL.room65 hr)) (pe_ix (ix_U (K := K)) (pv 1) pe_int (fun _ _ => rfl)) pe_str (nomark _)) (pss_one (ps_ret (pe_mtX M_Judge_read_right (takes_of rfl rfl rfl rfl) hr (by decide) T.cl_Judge (pv 0) (pa_cons (pv 2) (pa_cons (pe_ix (ix_U (K := K)) (pv 1) pe_int (fun _ _ => rfl)) pa_nil))))) pss_nil) (pss_one (ps_ret pe_bl)))))), ?_⟩
  exact (ss_seq (ss_set (se_call (sa_cons se_var sa_nil))) (ss_seq (ss_if (st_test (se_op os_eq (se_op os_ix se_var se_int) (se_strS (by decide +kernel)))) (ss_seq (ss_set (se_op os_nin se_var (se_fld (by decide +kernel) ⟨⟨T.cl_Judge, T.n_Judge_openings⟩, trivial⟩ se_var))) (ss_seq (ss_nput (se_fld (by decide +kernel) ⟨⟨T.cl_Judge, T.n_Judge_openings⟩, trivial⟩ se_var) se_var (se_op os_ix se_var se_int)) (ss_ret (se_not se_var)))) ss_next) (ss_seq (ss_if (st_test (se_op os_eq (se_op os_ix se_var se_int) (se_strS (by decide +kernel)))) (ss_nput (se_fld (by decide +kernel) ⟨⟨T.cl_Judge, T.n_Judge_written⟩, trivial⟩ se_var) se_var (se_op os_add (se_nget2 (se_fld (by decide +kernel) ⟨⟨T.cl_Judge, T.n_Judge_written⟩, trivial⟩ se_var) se_var (se_tup sa_nil)) (se_op os_ix se_var se_int))) ss_next) (ss_seq (ss_if (st_test (se_op os_eq (se_op os_ix se_var se_int) (se_strS (by decide +kernel)))) (ss_ret (meth_one (by decide +kernel) se_var (sa_cons se_var (sa_cons (se_op os_ix se_var se_int) sa_nil)))) ss_next) (ss_ret se_bl)))))
abbrev N_is_between : List Str := ["thing", "most"]
theorem sc_is_between : FnScope N_is_between ["thing", "most"] (defScope s_is_between) := ⟨rfl, rfl, rfl, by decide +kernel, rfl, by decide +kernel, by decide +kernel⟩
theorem ok_is_between {P : Program} {w : World} {K : PySem.W.Frag} {mg : Str → Option Value} {base : Heap} {a : Addr} {fd : FuncData} {ca : CaT} (T : Txt K mg ca) (F : Fun K "is_between" "is_between" s_is_between a fd)  :
    FnOk P w K mg base (L2.CX P w) 1 a fd ["thing", "most"] (SpF K ca F_is_between) := by
  refine SM.Fn.ofF F sc_is_between rfl fun cdv A outer s H E hr => ?_
  have nd := sc_is_between.nd
  refine ⟨_, (pss_one (ps_ret (pe_and (pe_callB (call_isiA (K := K)) (by rfl) T.b_isinstance (by decide +kernel) (pa_cons (pv 0) (pa_cons (pe_bltn (v := .ty "int") (by rfl) T.b_int (by decide +kernel) rfl) pa_nil))) (pe_and (pe_not (pe_callB (call_isiA (K := K)) (by rfl) T.b_isinstance (by decide +kernel) (pa_cons (pv 0) (pa_cons (pe_bltn (v := .ty "bool") (by rfl) T.b_bool (by decide +kernel) rfl) pa_nil)))) (pe_one (pe_chain op_leU op_leU pe_int (pv 0) (pv 1))))))), ?_⟩
  exact (ss_ret (se_and (se_cb (cs_isi T.isO T.isX T.isT) (sa_cons se_var (sa_cons se_ty sa_nil))) (se_and (se_not (se_cb (cs_isi T.isO T.isX T.isT) (sa_cons se_var (sa_cons se_ty sa_nil)))) (se_ch os_le os_le se_int se_var se_var))))
abbrev N_is_whole : List Str := ["thing", "least", "most"]
theorem sc_is_whole : FnScope N_is_whole ["thing", "least", "most"] (defScope s_is_whole) := ⟨rfl, rfl, rfl, by decide +kernel, rfl, by decide +kernel, by decide +kernel⟩
theorem ok_is_whole {P : Program} {w : World} {K : PySem.W.Frag} {mg : Str → Option Value} {base : Heap} {a : Addr} {fd : FuncData} {ca : CaT} (T : Txt K mg ca) (F : Fun K "is_whole" "is_whole" s_is_whole a fd)  :
    FnOk P w K mg base (L2.CX P w) 1 a fd ["thing", "least", "most"] (SpF K ca F_is_whole) := by
  refine SM.Fn.ofF F sc_is_whole rfl fun cdv A outer s H E hr => ?_
  have nd := sc_is_whole.nd
  refine ⟨_, (pss_one (ps_ret (pe_and (pe_callB (call_isiA (K := K)) (by rfl) T.b_isinstance (by decide +kernel) (pa_cons (pv 0) (pa_cons (pe_bltn (v := .ty "int") (by rfl) T.b_int (by decide +kernel) rfl) pa_nil))) (pe_and (pe_not (pe_callB (call_isiA (K := K)) (by rfl) T.b_isinstance (by decide +kernel) (pa_cons (pv 0) (pa_cons (pe_bltn (v := .ty "bool") (by rfl) T.b_bool (by decide +kernel) rfl) pa_nil)))) (pe_one (pe_chain op_leU op_leU (pv 1) (pv 0) (pv 2))))))), ?_⟩
  exact (ss_ret (se_and (se_cb (cs_isi T.isO T.isX T.isT) (sa_cons se_var (sa_cons se_ty sa_nil))) (se_and (se_not (se_cb (cs_isi T.isO T.isX T.isT) (sa_cons se_var (sa_cons se_ty sa_nil)))) (se_ch os_le os_le se_var se_var se_var))))
abbrev N_is_data : List Str := ["thing", "byte"]
theorem sc_is_data : FnScope N_is_data ["thing"] (defScope s_is_data) := ⟨rfl, rfl, rfl, by decide +kernel, rfl, by decide +kernel, by decide +kernel⟩
theorem ok_is_data {P : Program} {w : World} {K : PySem.W.Frag} {mg : Str → Option Value} {base : Heap} {a : Addr} {fd : FuncData} {ca : CaT} (T : Txt K mg ca) (F : Fun K "is_data" "is_data" s_is_data a fd) (C_is_whole : Dx P w K mg base 1 "is_whole" (SpF K ca F_is_whole)) :
    FnOk P w K mg base (L2.CX P w) 2 a fd ["thing"] (SpF K ca F_is_data) := by
  refine SM.Fn.ofF F sc_is_data rfl fun cdv A outer s H E hr => ?_
  have nd := sc_is_data.nd
  refine ⟨_, (pss_cons (ps_if (PW.pt (pw_or (pt_not (pt_val (pe_callB (call_isiA (K := K)) (by rfl) T.b_isinstance (by decide +kernel) (pa_cons (pv 0) (pa_cons (pe_bltn (v := .ty "tuple") (by rfl) T.b_tuple (by decide +kernel) rfl) pa_nil))))) (pw_or1 (pt_cmpR op_gtU (pe_callB (call_lenU (K := K)) (by rfl) T.b_len (by decide +kernel) (pa_cons (pv 0) pa_nil)) (pe_glob (v := .int 1000) rfl T.c_MOST_DATA.choose_spec ⟨_, rfl⟩) (nomark _))))) (pss_one (ps_ret pe_bl)) pss_nil) (pss_one (ps_ret (pe_callB (call_allU (K := K) rfl) (by rfl) T.b_all (by decide +kernel) (pa_cons (pe_lc (own := [("byte", 1)]) (g := (gName 1)) rfl nd (pi_seqU (K := K) (pv 0)) (blkOk_by (own := [("byte", 1)]) (N := N_is_data) (sc := defScope s_is_data) (by decide +kernel)) (fun _ _ _ _ _ => (pg_name (i := 1) nd rfl (by first | exact Or.inl rfl | exact Or.inr rfl))) (fun _ _ _ _ _ => pts_nil) (fun _ _ _ _ _ => (pe_dx0 C_is_whole hr (by decide) rfl (pa_cons (pv 1) (pa_cons pe_int (pa_cons (pe_glob (v := .int 255) rfl T.c_MOST_BYTE.choose_spec ⟨_, rfl⟩) pa_nil)))))) pa_nil))))), ?_⟩
  exact (ss_seq (ss_if (st_or (st_not (st_b (se_cb (cs_isi T.isO T.isX T.isT) (sa_cons se_var (sa_cons se_ty sa_nil))))) (st_test (se_op os_gt (se_cb cs_len (sa_cons se_var sa_nil)) se_int))) (ss_ret se_bl) ss_next) (ss_ret (se_cb cs_all (sa_cons (se_lc (W2 := fun _ _ _ _ => False) (sw_seq se_var) sg_name (by decide) st_yes (se_call0 (sa_cons se_var (sa_cons se_int (sa_cons se_int sa_nil))))) sa_nil))))
abbrev N_is_more : List Str := ["word", "more"]
theorem sc_is_more : FnScope N_is_more ["word", "more"] (defScope s_is_more) := ⟨rfl, rfl, rfl, by decide +kernel, rfl, by decide +kernel, by decide +kernel⟩
theorem ok_is_more {P : Program} {w : World} {K : PySem.W.Frag} {mg : Str → Option Value} {base : Heap} {a : Addr} {fd : FuncData} {ca : CaT} (T : Txt K mg ca) (F : Fun K "is_more" "is_more" s_is_more a fd) (C_is_between : Dx P w K mg base 1 "is_between" (SpF K ca F_is_between)) (C_is_data : Dx P w K mg base 2 "is_data" (SpF K ca F_is_data)) :
    FnOk P w K mg base (L2.CX P w) 3 a fd ["word", "more"] (SpF K ca F_is_more) := by
  refine SM.Fn.ofF F sc_is_more rfl fun cdv A outer s H E hr => ?_
  have nd := sc_is_more.nd
  refine ⟨_, (pss_cons (ps_if (pt_cmpR (op_inAll (K := K) (DL.room65 hr)) (pv 0) (pe_tup (pa_cons pe_str (pa_cons pe_str pa_nil))) rfl) (pss_one (ps_ret (pe_and (pe_dx C_is_data (takes_of rfl rfl rfl rfl) hr (by decide) rfl (pa_cons (pv 1) pa_nil)) (pe_one (pe_cmpR op_gtU (pe_callB (call_lenU (K := K)) (by rfl) T.b_len (by decide +kernel) (pa_cons (pv 1) pa_nil)) pe_int (nomark _)))))) pss_nil) (pss_cons (ps_if (pt_cmpR (op_eqPK (K := K) (DL.room65 hr)) (pv 0) pe_str (nomark _)) (pss_one (ps_ret (pe_dx C_is_between (takes_of rfl rfl rfl rfl) hr (by decide) rfl (pa_cons (pv 1) (pa_cons (pe_op op_subU (pe_glob (v := .int 4294967296) rfl T.c_SIZE.choose_spec ⟨_, rfl⟩) pe_int) pa_nil))))) pss_nil) (pss_one (ps_ret (pe_and (pe_callB (call_isiA (K := K)) (by rfl) T.b_isinstance (by decide +kernel) (pa_cons (pv 1) (pa_cons (pe_bltn (v := .ty "str") (by rfl) T.b_str (by decide +kernel) rfl) pa_nil))) (pe_one (pe_cmpR (op_inAll (K := K) (DL.room65 hr)) (pv 1) (pe_glob (v := .ref (ca "STANDS")) rfl T.g_STANDS rfl) rfl))))))), ?_⟩
  exact (ss_seq (ss_if (st_test (se_op os_in se_var (se_tup (sa_cons (se_strS (by decide +kernel)) (sa_cons (se_strS (by decide +kernel)) sa_nil))))) (ss_ret (se_and (se_call (sa_cons se_var sa_nil)) (se_op os_gt (se_cb cs_len (sa_cons se_var sa_nil)) se_int))) ss_next) (ss_seq (ss_if (st_test (se_op os_eq se_var (se_strS (by decide +kernel)))) (ss_ret (se_call (sa_cons se_var (sa_cons (se_op os_sub se_int se_int) sa_nil)))) ss_next) (ss_ret (se_and (se_cb (cs_isi T.isO T.isX T.isT) (sa_cons se_var (sa_cons se_ty sa_nil))) (se_op os_in se_var (se_c fun F m => T.w_STANDS F m))))))
abbrev N_is_line : List Str := ["thing", "word", "at", "place", "key", "first", "more", "one"]
theorem sc_is_line : FnScope N_is_line ["thing"] (defScope s_is_line) := ⟨rfl, rfl, rfl, by decide +kernel, rfl, by decide +kernel, by decide +kernel⟩
theorem ok_is_line {P : Program} {w : World} {K : PySem.W.Frag} {mg : Str → Option Value} {base : Heap} {a : Addr} {fd : FuncData} {ca : CaT} (T : Txt K mg ca) (F : Fun K "is_line" "is_line" s_is_line a fd) (C_is_between : Dx P w K mg base 1 "is_between" (SpF K ca F_is_between)) (C_is_more : Dx P w K mg base 3 "is_more" (SpF K ca F_is_more)) :
    FnOk P w K mg base (L2.CX P w) 4 a fd ["thing"] (SpF K ca F_is_line) := by
  refine SM.Fn.ofF F sc_is_line rfl fun cdv A outer s H E hr => ?_
  have nd := sc_is_line.nd
  refine ⟨_, (pss_cons (ps_if (PW.pt (pw_or (pt_not (pt_val (pe_callB (call_isiA (K := K)) (by rfl) T.b_isinstance (by decide +kernel) (pa_cons (pv 0) (pa_cons (pe_bltn (v := .ty "tuple") (by rfl) T.b_tuple (by decide +kernel) rfl) pa_nil))))) (pw_or1 (pt_cmpR (op_nePK (K := K) (DL.room65 hr)) (pe_callB (call_lenU (K := K)) (by rfl) T.b_len (by decide +kernel) (pa_cons (pv 0) pa_nil)) pe_int (nomark _))))) (pss_one (ps_ret pe_bl)) pss_nil) (pss_cons (ps_asg (pv 0) (pg_tup rfl (pgs_cons (pg_name (i := 1) nd rfl (by first | exact Or.inl rfl | exact Or.inr rfl)) (pgs_cons (pg_name (i := 2) nd rfl (by first | exact Or.inl rfl | exact Or.inr rfl)) (pgs_cons (pg_name (i := 3) nd rfl (by first | exact Or.inl rfl | exact Or.inr rfl)) (pgs_cons (pg_name (i := 4) nd rfl (by first | exact Or.inl rfl | exact Or.inr rfl)) (pgs_cons (pg_name (i := 5) nd rfl (by first | exact Or.inl rfl | exact Or.inr rfl)) (pgs_cons (pg_name (i := 6) nd rfl (by first | exact Or.inl rfl | exact Or.inr rfl)) pgs_nil)))))))) (pss_cons (ps_if (PW.pt (pw_or (pt_not (pt_val (pe_callB (call_isiA (K := K)) (by rfl) T.b_isinstance (by decide +kernel) (pa_cons (pv 1) (pa_cons (pe_bltn (v := .ty "str") (by rfl) T.b_str (by decide +kernel) rfl) pa_nil))))) (pw_or (pt_cmpR (op_notInAll (K := K) (DL.room65 hr)) (pv 1) (pe_tup (pa_cons pe_str (pa_cons pe_str (pa_cons pe_str (pa_cons pe_str pa_nil))))) rfl) (pw_or1 (pt_not (pt_val (pe_dx C_is_more (takes_of rfl rfl rfl rfl) hr (by decide) rfl (pa_cons (pv 1) (pa_cons (pv 6) pa_nil))))))))) (pss_one (ps_ret pe_bl)) pss_nil) (pss_cons (ps_if (PW.pt (pw_or (pt_not (pt_val (pe_callB (call_isiA (K := K)) (by rfl) T.b_isinstance (by decide +kernel) (pa_cons (pv 2) (pa_cons (pe_bltn (v := .ty "int") (by rfl) T.b_int (by decide +kernel) rfl) pa_nil))))) (pw_or (pt_val (pe_callB (call_isiA (K := K)) (by rfl) T.b_isinstance (by decide +kernel) (pa_cons (pv 2) (pa_cons (pe_bltn (v := .ty "bool") (by rfl) T.b_bool (by decide +kernel) rfl) pa_nil)))) (pw_or1 (pt_cmpR op_ltU (pv 2) pe_int (nomark _)))))) (pss_one (ps_ret pe_bl)) pss_nil) (pss_cons (ps_if (PW.pt (pw_or (pt_not (pt_val (pe_callB (call_isiA (K := K)) (by rfl) T.b_isinstance (by decide +kernel) (pa_cons (pv 4) (pa_cons (pe_bltn (v := .ty "tuple") (by rfl) T.b_tuple (by decide +kernel) rfl) pa_nil))))) (pw_or (pt_cmpR (op_nePK (K := K) (DL.room65 hr)) (pe_callB (call_lenU (K := K)) (by rfl) T.b_len (by decide +kernel) (pa_cons (pv 4) pa_nil)) pe_int (nomark _)) (pw_or1 (pt_not (pt_val (pe_callB (call_allU (K := K) rfl) (by rfl) T.b_all (by decide +kernel) (pa_cons (pe_lc (own := [("one", 7)]) (g := (gName 7)) rfl nd (pi_seqU (K := K) (pv 4)) (blkOk_by (own := [("one", 7)]) (N := N_is_line) (sc := defScope s_is_line) (by decide +kernel)) (fun _ _ _ _ _ => (pg_name (i := 7) nd rfl (by first | exact Or.inl rfl | exact Or.inr rfl))) (fun _ _ _ _ _ => pts_nil) (fun _ _ _ _ _ => (pe_dx0 C_is_between hr (by decide) rfl (pa_cons (pv 7) (pa_cons (pe_glob (v := .int 255) rfl T.c_BYTE.choose_spec ⟨_, rfl⟩) pa_nil))))) pa_nil)))))))) (pss_one (ps_ret pe_bl)) pss_nil) (pss_one (ps_ret (pe_and (pe_dx C_is_between (takes_of rfl rfl rfl rfl) hr (by decide) rfl (pa_cons (pv 3) (pa_cons (pe_glob (v := .int 255) rfl T.c_BYTE.choose_spec ⟨_, rfl⟩) pa_nil))) (pe_one (pe_dx C_is_between (takes_of rfl rfl rfl rfl) hr (by decide) rfl (pa_cons (pv 5) (pa_cons (pe_op op_subU (pe_glob (v := .int 4294967296) rfl T.c_SIZE.choose_spec ⟨_, rfl⟩) pe_int) pa_nil)))))))))))), ?_⟩
  exact (ss_seq (ss_if (st_or (st_not (st_b (se_cb (cs_isi T.isO T.isX T.isT) (sa_cons se_var (sa_cons se_ty sa_nil))))) (st_test (se_op os_ne (se_cb cs_len (sa_cons se_var sa_nil)) se_int))) (ss_ret se_bl) ss_next) (ss_seq (ss_asg se_var (sg_tup (sgs_cons sg_name (sgs_cons sg_name (sgs_cons sg_name (sgs_cons sg_name (sgs_cons sg_name (sgs_cons sg_name sgs_nil)))))) rfl)) (ss_seq (ss_if (st_or (st_not (st_b (se_cb (cs_isi T.isO T.isX T.isT) (sa_cons se_var (sa_cons se_ty sa_nil))))) (st_or (st_test (se_op os_notin se_var (se_tup (sa_cons (se_strS (by decide +kernel)) (sa_cons (se_strS (by decide +kernel)) (sa_cons (se_strS (by decide +kernel)) (sa_cons (se_strS (by decide +kernel)) sa_nil))))))) (st_not (st_b (se_call (sa_cons se_var (sa_cons se_var sa_nil))))))) (ss_ret se_bl) ss_next) (ss_seq (ss_if (st_or (st_not (st_b (se_cb (cs_isi T.isO T.isX T.isT) (sa_cons se_var (sa_cons se_ty sa_nil))))) (st_or (st_b (se_cb (cs_isi T.isO T.isX T.isT) (sa_cons se_var (sa_cons se_ty sa_nil)))) (st_test (se_op os_lt se_var se_int)))) (ss_ret se_bl) ss_next) (ss_seq (ss_if (st_or (st_not (st_b (se_cb (cs_isi T.isO T.isX T.isT) (sa_cons se_var (sa_cons se_ty sa_nil))))) (st_or (st_test (se_op os_ne (se_cb cs_len (sa_cons se_var sa_nil)) se_int)) (st_not (st_b (se_cb cs_all (sa_cons (se_lc (W2 := fun _ _ _ _ => False) (sw_seq se_var) sg_name (by decide) st_yes (se_call0 (sa_cons se_var (sa_cons se_int sa_nil)))) sa_nil)))))) (ss_ret se_bl) ss_next) (ss_ret (se_and (se_call (sa_cons se_var (sa_cons se_int sa_nil))) (se_call (sa_cons se_var (sa_cons (se_op os_sub se_int se_int) sa_nil))))))))))
abbrev N_need_book : List Str := ["thing", "line", "ticks"]
theorem sc_need_book : FnScope N_need_book ["thing"] (defScope s_need_book) := ⟨rfl, rfl, rfl, by decide +kernel, rfl, by decide +kernel, by decide +kernel⟩
theorem ok_need_book {P : Program} {w : World} {K : PySem.W.Frag} {mg : Str → Option Value} {base : Heap} {a : Addr} {fd : FuncData} {ca : CaT} (T : Txt K mg ca) (F : Fun K "need_book" "need_book" s_need_book a fd) (C_is_line : Dx P w K mg base 4 "is_line" (SpF K ca F_is_line)) :
    FnOk P w K mg base (L2.CX P w) 5 a fd ["thing"] (SpF K ca F_need_book) := by
  refine SM.Fn.ofF F sc_need_book rfl fun cdv A outer s H E hr => ?_
  have nd := sc_need_book.nd
  refine ⟨_, (pss_cons (ps_if (PW.pt (pw_or (pt_not (pt_val (pe_callB (call_isiA (K := K)) (by rfl) T.b_isinstance (by decide +kernel) (pa_cons (pv 0) (pa_cons (pe_bltn (v := .ty "list") (by rfl) T.b_list (by decide +kernel) rfl) pa_nil))))) (pw_or1 (pt_not (pt_val (pe_callB (call_allU (K := K) rfl) (by rfl) T.b_all (by decide +kernel) (pa_cons (pe_lc (own := [("line", 1)]) (g := (gName 1)) rfl nd (pi_seqU (K := K) (pv 0)) (blkOk_by (own := [("line", 1)]) (N := N_need_book) (sc := defScope s_need_book) (by decide +kernel)) (fun _ _ _ _ _ => (pg_name (i := 1) nd rfl (by first | exact Or.inl rfl | exact Or.inr rfl))) (fun _ _ _ _ _ => pts_nil) (fun _ _ _ _ _ => (pe_dx0 C_is_line hr (by decide) rfl (pa_cons (pv 1) pa_nil)))) pa_nil))))))) (pss_one (DL.ps_raiseC rfl (takes_of rfl rfl rfl rfl) (pmk_own PySem.F.excBase_ValueError T.e_NoBook T.g_NoBook T.k_NoBook (raises_own T.b_NoBook T.t_NoBook) rfl))) pss_nil) (pss_cons (ps_setLc (i := 2) (own := [("line", 1)]) (g := (gName 1)) rfl nd rfl rfl (sw_true rfl rfl rfl (by decide +kernel)) (pi_seqU (K := K) (pv 0)) (blkOk_by (own := [("line", 1)]) (N := N_need_book) (sc := defScope s_need_book) (by decide +kernel)) (fun _ _ _ _ _ => (pg_name (i := 1) nd rfl (by first | exact Or.inl rfl | exact Or.inr rfl))) (fun _ _ _ _ _ => pts_nil) (fun _ _ _ _ _ => (pe_ix (ix_U (K := K)) (pv 1) pe_int (fun _ _ => rfl)))) (pss_one (ps_if (pt_cmpR (op_nePK (K := K) (DL.room65 hr)) (pv 2) (pe_callB (call_sortedA (K := K)) (by rfl) T.b_sorted (by decide +kernel) (pa_cons (pv 2) pa_nil)) (nomark _)) (pss_one (DL.ps_raiseC rfl (takes_of rfl rfl rfl rfl) (pmk_own PySem.F.excBase_ValueError T.e_NoBook T.g_NoBook T.k_NoBook (raises_own T.b_NoBook T.t_NoBook) rfl))) pss_nil)))), ?_⟩
  exact (ss_seq (ss_if (st_or (st_not (st_b (se_cb (cs_isi T.isO T.isX T.isT) (sa_cons se_var (sa_cons se_ty sa_nil))))) (st_not (st_b (se_cb cs_all (sa_cons (se_lc (W2 := fun _ _ _ _ => False) (sw_seq se_var) sg_name (by decide) st_yes (se_call0 (sa_cons se_var sa_nil))) sa_nil))))) (ss_raise rfl) ss_next) (ss_seq (ss_set (se_lc (W2 := fun _ _ _ _ => False) (sw_seq se_var) sg_name (by decide) st_yes (se_op os_ix se_var se_int))) (ss_if (st_test (se_op os_ne se_var (se_cb cs_sorted (sa_cons se_var sa_nil)))) (ss_raise rfl) ss_next)))
abbrev N_judged : List Str := ["book", "judge", "number", "line"]
theorem sc_judged : FnScope N_judged ["book"] (defScope s_judged) := ⟨rfl, rfl, rfl, by decide +kernel, rfl, by decide +kernel, by decide +kernel⟩
theorem ok_judged {P : Program} {w : World} {K : PySem.W.Frag} {mg : Str → Option Value} {base : Heap} {a : Addr} {fd : FuncData} {ca : CaT} (T : Txt K mg ca) (F : Fun K "judged" "judged" s_judged a fd) (M_Judge : Mx P w K mg base 1 "Judge" (ca "Judge") (SpF K ca F_Judge___init__)) (M_Judge_follow : SM.Mt P w K mg base 4 (ca "Judge") "follow" (SpF K ca F_Judge_follow)) (C_need_book : Dx P w K mg base 5 "need_book" (SpF K ca F_need_book)) :
    FnOk P w K mg base (L2.CX P w) 6 a fd ["book"] (SpF K ca F_judged) := by
  refine SM.Fn.ofF F sc_judged rfl fun cdv A outer s H E hr => ?_
  have nd := sc_judged.nd
  refine ⟨_, (pss_cons (ps_expr (pe_dx C_need_book (takes_of rfl rfl rfl rfl) hr (by decide) rfl (pa_cons (pv 0) pa_nil))) (pss_cons (ps_set (i := 1) nd rfl (by first | exact Or.inl rfl | exact Or.inr rfl) (DL.pe_mx0N M_Judge hr (by decide) rfl)) (pss_cons (ps_for (passes_of rfl) rfl (pi_enumA (by rfl) T.b_enumerate (pa_cons (pv 0) pa_nil)) (pg_tup rfl (pgs_cons (pg_name (i := 2) nd rfl (by first | exact Or.inl rfl | exact Or.inr rfl)) (pgs_cons (pg_name (i := 3) nd rfl (by first | exact Or.inl rfl | exact Or.inr rfl)) pgs_nil))) (pss_one (ps_if (pt_not (pt_val (pe_mtX M_Judge_follow (takes_of rfl rfl rfl rfl) hr (by decide) T.cl_Judge (pv 1) (pa_cons (pv 3) pa_nil)))) (pss_one (ps_ret (pv 2))) pss_nil))) (pss_one (ps_ret pe_non))))), ?_⟩
  exact (ss_seq (ss_drop (se_call (sa_cons se_var sa_nil))) (ss_seq (ss_set (se_make0 sa_nil)) (ss_seq (ss_for (sw_enumA se_var) (sg_tup (sgs_cons sg_name (sgs_cons sg_name sgs_nil)) rfl) (ss_if (st_not (st_b (meth_one (by decide +kernel) se_var (sa_cons se_var sa_nil)))) (ss_ret se_var) ss_next)) (ss_ret se_non))))
abbrev N_places_written : List Str := ["book", "found", "number", "line", "some", "place"]
theorem sc_places_written : FnScope N_places_written ["book"] (defScope s_places_written) := ⟨rfl, rfl, rfl, by decide +kernel, rfl, by decide +kernel, by decide +kernel⟩
theorem ok_places_written {P : Program} {w : World} {K : PySem.W.Frag} {mg : Str → Option Value} {base : Heap} {a : Addr} {fd : FuncData} {ca : CaT} (T : Txt K mg ca) (F : Fun K "places_written" "places_written" s_places_written a fd) (C_talk_of : Dx P w K mg base 1 "talk_of" (SpF K ca F_talk_of)) :
    FnOk P w K mg base (L2.CX P w) 2 a fd ["book"] (SpF K ca F_places_written) := by
  refine SM.Fn.ofF F sc_places_written rfl fun cdv A outer s H E hr => ?_
  have nd := sc_places_written.nd
  refine ⟨_, (pss_cons (ps_set (i := 1) nd rfl (by first | exact Or.inl rfl | exact Or.inr rfl) L2.pe_dnewN) (pss_cons (ps_for (passes_of rfl) rfl (pi_enumA (by rfl) T.b_enumerate (pa_cons (pv 0) pa_nil)) (pg_tup rfl (pgs_cons (pg_name (i := 2) nd rfl (by first | exact Or.inl rfl | exact Or.inr rfl)) (pgs_cons (pg_name (i := 3) nd rfl (by first | exact Or.inl rfl | exact Or.inr rfl)) pgs_nil))) (pss_one (ps_if (pt_cmpR (op_eqPK (K := K) (DL.room65 hr)) (pe_ix (ix_U (K := K)) (pv 3) pe_int (fun _ _ => rfl)) pe_str (nomark _)) (pss_cons (ps_setLc (i := 4) (own := [("place", 5)]) (g := (gName 5)) rfl nd rfl rfl (sw_true rfl rfl rfl (by decide +kernel)) (pi_range1 rfl T.b_range (pa_cons (pe_callB (call_lenU (K := K)) (by rfl) T.b_len (by decide +kernel) (pa_cons (pe_ix (ix_U (K := K)) (pv 3) pe_int (fun _ _ => rfl)) pa_nil)) pa_nil)) (blkOk_by (own := [("place", 5)]) (N := N_places_written) (sc := defScope s_places_written) (by decide +kernel)) (fun _ _ _ _ _ => (pg_name (i := 5) nd rfl (by first | exact Or.inl rfl | exact Or.inr rfl))) (fun _ _ _ _ _ => pts_nil) (fun _ _ _ _ _ => (pe_tup (pa_cons (pv 2) (pa_cons (pv 5) pa_nil))))) (pss_one (L2.ps_nput (DL.room65 hr) (pv 1) (pe_dx C_talk_of (takes_of rfl rfl rfl rfl) hr (by decide) rfl (pa_cons (pv 3) pa_nil)) (pe_op (op_addU (K := K)) (L2.pe_nget2 (DL.room65 hr) (pv 1) (pe_dx C_talk_of (takes_of rfl rfl rfl rfl) hr (by decide) rfl (pa_cons (pv 3) pa_nil)) (pe_lst pa_nil) ⟨rfl, rfl, rfl, rfl⟩) (pv 4)) rfl))) pss_nil))) (pss_one (ps_ret (pv 1))))), ?_⟩
  exact (ss_seq (ss_set se_nnew) (ss_seq (ss_for (sw_enumA se_var) (sg_tup (sgs_cons sg_name (sgs_cons sg_name sgs_nil)) rfl) (ss_if (st_test (se_op os_eq (se_op os_ix se_var se_int) (se_strS (by decide +kernel)))) (ss_seq (ss_set (se_lc (W2 := fun _ _ _ _ => False) (sw_r1 (sa_cons (se_cb cs_len (sa_cons (se_op os_ix se_var se_int) sa_nil)) sa_nil)) sg_name (by decide) st_yes (se_tup (sa_cons se_var (sa_cons se_var sa_nil))))) (ss_nput se_var (se_call (sa_cons se_var sa_nil)) (se_op os_add (se_nget2 se_var (se_call (sa_cons se_var sa_nil)) (se_lst sa_nil)) se_var))) ss_next)) (ss_ret se_var)))
abbrev N_paper_of : List Str := ["book", "written", "sources", "line", "had", "found", "talk", "first_place"]
theorem sc_paper_of : FnScope N_paper_of ["book"] (defScope s_paper_of) := ⟨rfl, rfl, rfl, by decide +kernel, rfl, by decide +kernel, by decide +kernel⟩
theorem ok_paper_of {P : Program} {w : World} {K : PySem.W.Frag} {mg : Str → Option Value} {base : Heap} {a : Addr} {fd : FuncData} {ca : CaT} (T : Txt K mg ca) (F : Fun K "paper_of" "paper_of" s_paper_of a fd) (C_judged : Dx P w K mg base 6 "judged" (SpF K ca F_judged)) (C_partner_of : Dx P w K mg base 1 "partner_of" (SpF K ca F_partner_of)) (C_places_written : Dx P w K mg base 2 "places_written" (SpF K ca F_places_written)) (C_talk_of : Dx P w K mg base 1 "talk_of" (SpF K ca F_talk_of)) :
    FnOk P w K mg base (L2.CX P w) 7 a fd ["book"] (SpF K ca F_paper_of) := by
  refine SM.Fn.ofF F sc_paper_of rfl fun cdv A outer s H E hr => ?_
  have nd := sc_paper_of.nd
  refine ⟨_, (pss_cons (ps_if (pt_cmpR op_notU (pe_dx C_judged (takes_of rfl rfl rfl rfl) hr (by decide) rfl (pa_cons (pv 0) pa_nil)) pe_non (nomark _)) (pss_one (ps_ret pe_non)) pss_nil) (pss_cons (ps_set (i := 1) nd rfl (by first | exact Or.inl rfl | exact Or.inr rfl) (pe_dx C_places_written (takes_of rfl rfl rfl rfl) hr (by decide) rfl (pa_cons (pv 0) pa_nil))) (pss_cons (ps_set (i := 2) nd rfl (by first | exact Or.inl rfl | exact Or.inr rfl) (pe_callTy (L2.call_dictN (K := K) (DL.room65 hr) rfl) (by rfl) T.b_dict (by decide +kernel) (pa_cons (pe_lc (own := [("line", 3)]) (g := (gName 3)) rfl nd (pi_seqU (K := K) (pv 0)) (blkOk_by (own := [("line", 3)]) (N := N_paper_of) (sc := defScope s_paper_of) (by decide +kernel)) (fun _ _ _ _ _ => (pg_name (i := 3) nd rfl (by first | exact Or.inl rfl | exact Or.inr rfl))) (fun _ _ _ _ _ => (pts_one (pt_cmpR (op_eqPK (K := K) (DL.room65 hr)) (pe_ix (ix_U (K := K)) (pv 3) pe_int (fun _ _ => rfl)) pe_str (nomark _)))) (fun _ _ _ _ _ => (pe_tup (pa_cons (pe_dx0 C_talk_of hr (by decide) rfl (pa_cons (pv 3) pa_nil)) (pa_cons (pe_dx0 C_partner_of hr (by decide) rfl (pa_cons (pe_dx0 C_talk_of hr (by decide) rfl (pa_cons (pv 3) pa_nil)) (pa_cons (pe_ix (ix_U (K := K)) (pv 3) pe_int (fun _ _ => rfl)) pa_nil))) pa_nil))))) pa_nil))) (pss_cons (ps_set (i := 4) nd rfl (by first | exact Or.inl rfl | exact Or.inr rfl) L2.pe_dnewN) (pss_cons (ps_set (i := 5) nd rfl (by first | exact Or.inl rfl | exact Or.inr rfl) (pe_lst pa_nil)) (pss_cons (ps_for (passes_of rfl) rfl (pi_seqU (K := K) (pv 0)) (pg_name (i := 3) nd rfl (by first | exact Or.inl rfl | exact Or.inr rfl)) (pss_one (ps_if (pt_cmpR (op_eqPK (K := K) (DL.room65 hr)) (pe_ix (ix_U (K := K)) (pv 3) pe_int (fun _ _ => rfl)) pe_str (nomark _)) (pss_cons (ps_set (i := 6) nd rfl (by first | exact Or.inl rfl | exact Or.inr rfl) (pe_dx C_talk_of (takes_of rfl rfl rfl rfl) hr (by decide) rfl (pa_cons (pv 3) pa_nil))) (pss_cons (ps_set (i := 7) nd rfl (by first | exact Or.inl rfl | exact Or.inr rfl) (L2.pe_nget2 (DL.room65 hr) (pv 4) (pv 6) pe_int ⟨rfl, rfl, rfl, rfl⟩)) (pss_cons (L2.ps_nput (DL.room65 hr) (pv 4) (pv 6) (pe_op (op_addU (K := K)) (pv 7) (pe_callB (call_lenU (K := K)) (by rfl) T.b_len (by decide +kernel) (pa_cons (pe_ix (ix_U (K := K)) (pv 3) pe_int (fun _ _ => rfl)) pa_nil))) rfl) (pss_one (ps_expr (pe_bm PySem.F.plainAttrs_list PySem.F.slot_list_append PySem.F.type_list_append mt_append (pv 5) (pa_cons (pe_slice (sl_U (K := K)) (L2.pe_nget2 (DL.room65 hr) (pv 1) (L2.pe_nget (DL.room65 hr) (pv 2) (pv 6) (fun _ _ => rfl)) (pe_lst pa_nil) ⟨rfl, rfl, rfl, rfl⟩) (po_some (pv 7)) (po_some (L2.pe_nget (DL.room65 hr) (pv 4) (pv 6) (fun _ _ => rfl)))) pa_nil))))))) pss_nil))) (pss_one (ps_ret (pv 5))))))))), ?_⟩
  exact (ss_seq (ss_if (st_test (se_op os_isnot (se_call (sa_cons se_var sa_nil)) se_non)) (ss_ret se_non) ss_next) (ss_seq (ss_set (se_call (sa_cons se_var sa_nil))) (ss_seq (ss_set (se_cb cs_dictN (sa_cons (se_lc (W2 := fun _ _ _ _ => False) (sw_seq se_var) sg_name (by decide) (st_test (se_op os_eq (se_op os_ix se_var se_int) (se_strS (by decide +kernel)))) (se_tup (sa_cons (se_call0 (sa_cons se_var sa_nil)) (sa_cons (se_call0 (sa_cons (se_call0 (sa_cons se_var sa_nil)) (sa_cons (se_op os_ix se_var se_int) sa_nil))) sa_nil)))) sa_nil))) (ss_seq (ss_set se_nnew) (ss_seq (ss_set (se_lst sa_nil)) (ss_seq (ss_for (sw_seq se_var) sg_name (ss_if (st_test (se_op os_eq (se_op os_ix se_var se_int) (se_strS (by decide +kernel)))) (ss_seq (ss_set (se_call (sa_cons se_var sa_nil))) (ss_seq (ss_set (se_nget2 se_var se_var se_int)) (ss_seq (ss_nput se_var se_var (se_op os_add se_var (se_cb cs_len (sa_cons (se_op os_ix se_var se_int) sa_nil)))) (ss_drop (se_bl_ ms_append se_var (sa_cons (se_sl sls_all (se_nget2 se_var (se_op os_nget se_var se_var) (se_lst sa_nil)) (so_some se_var) (so_some (se_op os_nget se_var se_var))) sa_nil)))))) ss_next)) (ss_ret se_var)))))))
abbrev N_is_pair : List Str := ["thing", "one"]
theorem sc_is_pair : FnScope N_is_pair ["thing"] (defScope s_is_pair) := ⟨rfl, rfl, rfl, by decide +kernel, rfl, by decide +kernel, by decide +kernel⟩
theorem ok_is_pair {P : Program} {w : World} {K : PySem.W.Frag} {mg : Str → Option Value} {base : Heap} {a : Addr} {fd : FuncData} {ca : CaT} (T : Txt K mg ca) (F : Fun K "is_pair" "is_pair" s_is_pair a fd)  :
    FnOk P w K mg base (L2.CX P w) 1 a fd ["thing"] (SpF K ca F_is_pair) := by
  refine SM.Fn.ofF F sc_is_pair rfl fun cdv A outer s H E hr => ?_
  have nd := sc_is_pair.nd
  refine ⟨_, (pss_cons (ps_if (PW.pt (pw_or (pt_not (pt_val (pe_callB (call_isiA (K := K)) (by rfl) T.b_isinstance (by decide +kernel) (pa_cons (pv 0) (pa_cons (pe_bltn (v := .ty "tuple") (by rfl) T.b_tuple (by decide +kernel) rfl) pa_nil))))) (pw_or1 (pt_cmpR (op_nePK (K := K) (DL.room65 hr)) (pe_callB (call_lenU (K := K)) (by rfl) T.b_len (by decide +kernel) (pa_cons (pv 0) pa_nil)) pe_int (nomark _))))) (pss_one (ps_ret pe_bl)) pss_nil) (pss_one (ps_ret (pe_callB (call_allU (K := K) rfl) (by rfl) T.b_all (by decide +kernel) (pa_cons (pe_lc (own := [("one", 1)]) (g := (gName 1)) rfl nd (pi_seqU (K := K) (pv 0)) (blkOk_by (own := [("one", 1)]) (N := N_is_pair) (sc := defScope s_is_pair) (by decide +kernel)) (fun _ _ _ _ _ => (pg_name (i := 1) nd rfl (by first | exact Or.inl rfl | exact Or.inr rfl))) (fun _ _ _ _ _ => pts_nil) (fun _ _ _ _ _ => (pe_and (pe_callB (call_isiA (K := K)) (by rfl) T.b_isinstance (by decide +kernel) (pa_cons (pv 1) (pa_cons (pe_bltn (v := .ty "int") (by rfl) T.b_int (by decide +kernel) rfl) pa_nil))) (pe_one (pe_not (pe_callB (call_isiA (K := K)) (by rfl) T.b_isinstance (by decide +kernel) (pa_cons (pv 1) (pa_cons (pe_bltn (v := .ty "bool") (by rfl) T.b_bool (by decide +kernel) rfl) pa_nil)))))))) pa_nil))))), ?_⟩
  exact (ss_seq (ss_if (st_or (st_not (st_b (se_cb (cs_isi T.isO T.isX T.isT) (sa_cons se_var (sa_cons se_ty sa_nil))))) (st_test (se_op os_ne (se_cb cs_len (sa_cons se_var sa_nil)) se_int))) (ss_ret se_bl) ss_next) (ss_ret (se_cb cs_all (sa_cons (se_lc (W2 := fun _ _ _ _ => False) (sw_seq se_var) sg_name (by decide) st_yes (se_and (se_cb (cs_isi T.isO T.isX T.isT) (sa_cons se_var (sa_cons se_ty sa_nil))) (se_not (se_cb (cs_isi T.isO T.isX T.isT) (sa_cons se_var (sa_cons se_ty sa_nil)))))) sa_nil))))
abbrev N_is_formed : List Str := ["thing", "row", "one"]
theorem sc_is_formed : FnScope N_is_formed ["thing"] (defScope s_is_formed) := ⟨rfl, rfl, rfl, by decide +kernel, rfl, by decide +kernel, by decide +kernel⟩
theorem ok_is_formed {P : Program} {w : World} {K : PySem.W.Frag} {mg : Str → Option Value} {base : Heap} {a : Addr} {fd : FuncData} {ca : CaT} (T : Txt K mg ca) (F : Fun K "is_formed" "is_formed" s_is_formed a fd) (C_is_pair : Dx P w K mg base 1 "is_pair" (SpF K ca F_is_pair)) :
    FnOk P w K mg base (L2.CX P w) 2 a fd ["thing"] (SpF K ca F_is_formed) := by
  refine SM.Fn.ofF F sc_is_formed rfl fun cdv A outer s H E hr => ?_
  have nd := sc_is_formed.nd
  refine ⟨_, (pss_cons (ps_if (PW.pt (pw_or (pt_not (pt_val (pe_callB (call_isiA (K := K)) (by rfl) T.b_isinstance (by decide +kernel) (pa_cons (pv 0) (pa_cons (pe_bltn (v := .ty "list") (by rfl) T.b_list (by decide +kernel) rfl) pa_nil))))) (pw_or1 (pt_not (pt_val (pe_callB (call_allU (K := K) rfl) (by rfl) T.b_all (by decide +kernel) (pa_cons (pe_lc (own := [("row", 1)]) (g := (gName 1)) rfl nd (pi_seqU (K := K) (pv 0)) (blkOk_by (own := [("row", 1)]) (N := N_is_formed) (sc := defScope s_is_formed) (by decide +kernel)) (fun _ _ _ _ _ => (pg_name (i := 1) nd rfl (by first | exact Or.inl rfl | exact Or.inr rfl))) (fun _ _ _ _ _ => pts_nil) (fun _ _ _ _ _ => (pe_callB (call_isiA (K := K)) (by rfl) T.b_isinstance (by decide +kernel) (pa_cons (pv 1) (pa_cons (pe_bltn (v := .ty "list") (by rfl) T.b_list (by decide +kernel) rfl) pa_nil))))) pa_nil))))))) (pss_one (ps_ret pe_bl)) pss_nil) (pss_one (ps_ret (pe_callB (call_allU (K := K) rfl) (by rfl) T.b_all (by decide +kernel) (pa_cons (pe_lc (own := [("row", 1)]) (g := (gName 1)) rfl nd (pi_seqU (K := K) (pv 0)) (blkOk_by (own := [("row", 1)]) (N := N_is_formed) (sc := defScope s_is_formed) (by decide +kernel)) (fun _ _ _ _ _ => (pg_name (i := 1) nd rfl (by first | exact Or.inl rfl | exact Or.inr rfl))) (fun _ _ _ _ _ => pts_nil) (fun _ _ _ _ _ => (pe_callB (call_allU (K := K) rfl) (by rfl) T.b_all (by decide +kernel) (pa_cons (pe_lc (own := [("one", 2)]) (g := (gName 2)) rfl nd (pi_seqU (K := K) (pv 1)) (blkOk_by (own := [("one", 2)]) (N := N_is_formed) (sc := _) (by first | decide +kernel | kernel_rfl)) (fun _ _ _ _ _ => (pg_name (i := 2) nd rfl (by first | exact Or.inl rfl | exact Or.inr rfl))) (fun _ _ _ _ _ => pts_nil) (fun _ _ _ _ _ => (pe_dx0 C_is_pair hr (by decide) rfl (pa_cons (pv 2) pa_nil)))) pa_nil)))) pa_nil))))), ?_⟩
  exact (ss_seq (ss_if (st_or (st_not (st_b (se_cb (cs_isi T.isO T.isX T.isT) (sa_cons se_var (sa_cons se_ty sa_nil))))) (st_not (st_b (se_cb cs_all (sa_cons (se_lc (W2 := fun _ _ _ _ => False) (sw_seq se_var) sg_name (by decide) st_yes (se_cb (cs_isi T.isO T.isX T.isT) (sa_cons se_var (sa_cons se_ty sa_nil)))) sa_nil))))) (ss_ret se_bl) ss_next) (ss_ret (se_cb cs_all (sa_cons (se_lc (W2 := fun _ _ _ _ => False) (sw_seq se_var) sg_name (by decide) st_yes (se_cb cs_all (sa_cons (se_lc (W2 := fun _ _ _ _ => False) (sw_seq se_var) sg_name (by decide) st_yes (se_call0 (sa_cons se_var sa_nil))) sa_nil))) sa_nil))))
abbrev N_shows : List Str := ["book", "paper", "due"]
theorem sc_shows : FnScope N_shows ["book", "paper"] (defScope s_shows) := ⟨rfl, rfl, rfl, by decide +kernel, rfl, by decide +kernel, by decide +kernel⟩
theorem ok_shows {P : Program} {w : World} {K : PySem.W.Frag} {mg : Str → Option Value} {base : Heap} {a : Addr} {fd : FuncData} {ca : CaT} (T : Txt K mg ca) (F : Fun K "shows" "shows" s_shows a fd) (C_is_formed : Dx P w K mg base 2 "is_formed" (SpF K ca F_is_formed)) (C_paper_of : Dx P w K mg base 7 "paper_of" (SpF K ca F_paper_of)) :
    FnOk P w K mg base (L2.CX P w) 8 a fd ["book", "paper"] (SpF K ca F_shows) := by
  refine SM.Fn.ofF F sc_shows rfl fun cdv A outer s H E hr => ?_
  have nd := sc_shows.nd
  refine ⟨_, (pss_cons (ps_set (i := 2) nd rfl (by first | exact Or.inl rfl | exact Or.inr rfl) (pe_dx C_paper_of (takes_of rfl rfl rfl rfl) hr (by decide) rfl (pa_cons (pv 0) pa_nil))) (pss_one (ps_ret (pe_and (pe_cmpR op_notU (pv 2) pe_non (nomark _)) (pe_and (pe_dx C_is_formed (takes_of rfl rfl rfl rfl) hr (by decide) rfl (pa_cons (pv 1) pa_nil)) (pe_one (pe_cmpR (op_eqPK (K := K) (DL.room65 hr)) (pv 1) (pv 2) (nomark _)))))))), ?_⟩
  exact (ss_seq (ss_set (se_call (sa_cons se_var sa_nil))) (ss_ret (se_and (se_op os_isnot se_var se_non) (se_and (se_call (sa_cons se_var sa_nil)) (se_op os_eq se_var se_var)))))
abbrev N_law : List Str := ["_law_script", "_law_cells_here", "_law_book_here", "_law_due_here", "_law_turn", "_law_found", "_law_paper_here", "_law_cell", "_law_wrong", "_law_right"]
theorem sc_law : FnScope N_law ["_law_script"] (defScope s_law) := ⟨rfl, rfl, rfl, by decide +kernel, rfl, by decide +kernel, by decide +kernel⟩
theorem ok_law {P : Program} {w : World} {K : PySem.W.Frag} {mg : Str → Option Value} {base : Heap} {a : Addr} {fd : FuncData} {ca : CaT} (T : Txt K mg ca) (F : Fun K "law" "law" s_law a fd) (C_l_book : Dx P w K mg base 3 "_law_book" (SpF K ca F_l_book)) (C_l_cells : Dx P w K mg base 1 "_law_cells" (SpF K ca F_l_cells)) (C_l_due : Dx P w K mg base 3 "_law_due" (SpF K ca F_l_due)) (C_l_paper : Dx P w K mg base 2 "_law_paper" (SpF K ca F_l_paper)) (C_l_same : L2.Dg P w K mg base 1 "_law_same" (SpF K ca F_l_same)) (C_l_spoilt : Dx P w K mg base 2 "_law_spoilt" (SpF K ca F_l_spoilt)) (C_paper_of : Dx P w K mg base 7 "paper_of" (SpF K ca F_paper_of)) (C_shows : Dx P w K mg base 8 "shows" (SpF K ca F_shows)) :
    L2.FnG P w K mg base CX0 9 a fd ["_law_script"] (SpF K ca F_law) := by
  refine SM.Fn.ofG0 F sc_law rfl fun cdv A outer s H E hgd hr => ?_
  have nd := sc_law.nd
  refine ⟨_, (pss_cons (ps_set (i := 1) nd rfl (by first | exact Or.inl rfl | exact Or.inr rfl) (pe_dx0 C_l_cells hr (by decide) rfl (pa_cons (pv 0) pa_nil))) (pss_cons (ps_set (i := 2) nd rfl (by first | exact Or.inl rfl | exact Or.inr rfl) (pe_dx0 C_l_book hr (by decide) rfl (pa_cons (pv 1) pa_nil))) (pss_cons (ps_set (i := 3) nd rfl (by first | exact Or.inl rfl | exact Or.inr rfl) pe_non) (pss_cons (ps_if (pt_cmpR op_isU (pe_dx0 C_l_due hr (by decide) rfl (pa_cons (pv 2) pa_nil)) pe_non (nomark _)) (pss_one (ps_set (i := 3) nd rfl (by first | exact Or.inl rfl | exact Or.inr rfl) (pe_dx0 C_l_paper hr (by decide) rfl (pa_cons (pv 2) pa_nil)))) pss_nil) (pss_cons (ps_for PassesOwn.never rfl (pi_range1 rfl T.b_range (pa_cons pe_int pa_nil)) (pg_name (i := 4) nd rfl (by first | exact Or.inl rfl | exact Or.inr rfl)) (pss_cons (ps_set (i := 5) nd rfl (by first | exact Or.inl rfl | exact Or.inr rfl) (pe_dx0 C_paper_of hr (by decide) rfl (pa_cons (pv 2) pa_nil))) (pss_cons (ps_if (pt_cmpR (op_nePK (K := K) (DL.room65 hr)) (pv 5) (pv 3) (nomark _)) (pss_one (ps_ret pe_bl)) pss_nil) (pss_one (ps_if (pt_cmpR op_notU (pv 5) pe_non (nomark _)) (pss_one (ps_expr (pe_bm PySem.F.plainAttrs_list PySem.F.slot_list_append PySem.F.type_list_append mt_append (pv 5) (pa_cons pe_str pa_nil)))) pss_nil))))) (pss_cons (ps_set (i := 6) nd rfl (by first | exact Or.inl rfl | exact Or.inr rfl) (pe_ifExp (pt_cmpR op_isU (pv 3) pe_non (nomark _)) (pe_lst pa_nil) (pv 3))) (pss_cons (ps_if (pt_cmpR (op_nePK (K := K) (DL.room65 hr)) (pe_dx0 C_shows hr (by decide) rfl (pa_cons (pv 2) (pa_cons (pv 6) pa_nil))) (pe_cmpR op_notU (pv 3) pe_non (nomark _)) (nomark _)) (pss_one (ps_ret pe_bl)) pss_nil) (pss_cons (ps_for PassesOwn.never rfl (pi_seqU (K := K) (pe_slice (sl_U (K := K)) (pv 1) po_none (po_some pe_int))) (pg_name (i := 7) nd rfl (by first | exact Or.inl rfl | exact Or.inr rfl)) (pss_cons (ps_set (i := 8) nd rfl (by first | exact Or.inl rfl | exact Or.inr rfl) (pe_dx0 C_l_spoilt hr (by decide) rfl (pa_cons (pv 6) (pa_cons (pv 7) pa_nil)))) (pss_one (ps_if (pt_cmpR (op_nePK (K := K) (DL.room65 hr)) (pe_dx0 C_shows hr (by decide) rfl (pa_cons (pv 2) (pa_cons (pv 8) pa_nil))) (pe_and (pe_cmpR op_notU (pv 3) pe_non (nomark _)) (pe_one (L2.pe_dg0 C_l_same hgd hr (by decide) rfl (pa_cons (pv 8) (pa_cons (pv 3) pa_nil))))) (nomark _)) (pss_one (ps_ret pe_bl)) pss_nil)))) (pss_cons (ps_set (i := 9) nd rfl (by first | exact Or.inl rfl | exact Or.inr rfl) (pv 2)) (pss_cons (ps_if (pt_cmpR op_isU (pv 3) pe_non (nomark _)) (pss_one (ps_set (i := 9) nd rfl (by first | exact Or.inl rfl | exact Or.inr rfl) (pe_slice (sl_U (K := K)) (pv 2) po_none (po_some (pe_dx0 C_l_due hr (by decide) rfl (pa_cons (pv 2) pa_nil)))))) pss_nil) (pss_one (ps_ret (pe_cmpR op_isU (pe_dx0 C_shows hr (by decide) rfl (pa_cons (pv 9) (pa_cons (pe_dx0 C_paper_of hr (by decide) rfl (pa_cons (pv 9) pa_nil)) pa_nil))) pe_bl (nomark _)))))))))))))), ?_⟩
  exact (ss_seq (ss_set (se_call0 (sa_cons se_var sa_nil))) (ss_seq (ss_set (se_call0 (sa_cons se_var sa_nil))) (ss_seq (ss_set se_non) (ss_seq (ss_if (st_test (se_op os_is (se_call0 (sa_cons se_var sa_nil)) se_non)) (ss_set (se_call0 (sa_cons se_var sa_nil))) ss_next) (ss_seq (ss_for (sw_r1 (sa_cons se_int sa_nil)) sg_name (ss_seq (ss_set (se_call0 (sa_cons se_var sa_nil))) (ss_seq (ss_if (st_test (se_op os_ne se_var se_var)) (ss_ret se_bl) ss_next) (ss_if (st_test (se_op os_isnot se_var se_non)) (ss_drop (se_bl_ ms_append se_var (sa_cons (se_strS (by decide +kernel)) sa_nil))) ss_next)))) (ss_seq (ss_set (se_if (st_test (se_op os_is se_var se_non)) (se_lst sa_nil) se_var)) (ss_seq (ss_if (st_test (se_op os_ne (se_call0 (sa_cons se_var (sa_cons se_var sa_nil))) (se_op os_isnot se_var se_non))) (ss_ret se_bl) ss_next) (ss_seq (ss_for (sw_seq (se_sl sls_all se_var so_none (so_some se_int))) sg_name (ss_seq (ss_set (se_call0 (sa_cons se_var (sa_cons se_var sa_nil)))) (ss_if (st_test (se_op os_ne (se_call0 (sa_cons se_var (sa_cons se_var sa_nil))) (se_and (se_op os_isnot se_var se_non) (se_call0 (sa_cons se_var (sa_cons se_var sa_nil)))))) (ss_ret se_bl) ss_next))) (ss_seq (ss_set se_var) (ss_seq (ss_if (st_test (se_op os_is se_var se_non)) (ss_set (se_sl sls_all se_var so_none (so_some (se_call0 (sa_cons se_var sa_nil))))) ss_next) (ss_ret (se_op os_is (se_call0 (sa_cons se_var (sa_cons (se_call0 (sa_cons se_var sa_nil)) sa_nil))) se_bl))))))))))))
def spLaw (K : PySem.W.Frag) : Sp := fun vs H Q _ => ∃ (a : Addr) (ns : List Int), vs = [.ref a] ∧ SqL K H a (ns.map V.int) ∧ ns.length ≤ 63 ∧ ∀ H1, Q (.bl true) H1
theorem law_imp {K : PySem.W.Frag} {ca : CaT} (hT : ca.T = []) : ∀ (vs : List V) (H : Hp) (Q : VK) (E : XK), spLaw K vs H Q E → SpF K ca F_law vs H Q E := fun vs H Q E ⟨a, ns, e, h, hl, k⟩ => by
  subst e
  obtain ⟨A, hA⟩ := law_true ns hl
  refine ⟨SM.noT H, [], [], [.scr (ns.map D.int)], Rl.start (by rw [hT]; simp), .cons (.scr (SM.SqL.noT h) RepL.of_ints) .nil, ?_⟩
  rw [hA]
  intro v F' m' H' _ _ r
  cases r
  exact k H'
def caL (K : Hk.Fk) : CaT := ⟨fun x => He.ga K x, []⟩
theorem txt_ok {w : World} {K : Hk.Fk} {h : Heap} {mg : Str → Option Value} (X : K.In h) (G : h.Ns mainGlobals mg) (c : Hk.SaysK Hx.exs Hx.fn Hx.ts w K) : Txt K mg (caL K) :=
  ⟨PySem.W.mg_of X G (Hx.g_Judge c),
   PySem.W.mg_of X G (Hx.g_NoBook c),
   PySem.W.mg_of X G (Hx.g_STANDS c),
   (Hx.e_NoBook c),
   (Hx.k_NoBook c),
   (Hx.b_NoBook c),
   (Hx.t_NoBook c),
   (Hx.cl_Judge c),
   (Hx.mk_Judge c),
   (Hx.kc_Judge c),
   (Hx.n_Judge_had c),
   (Hx.n_Judge_openings c),
   (Hx.n_Judge_written c),
   ⟨⟨(Hx.in_Judge c), by decide⟩, trivial⟩,
   ⟨⟨(Hx.x_NoBook c), by decide⟩, trivial⟩,
   (by unfold tb_; exact .cons (by simpa [vOf, btn, caL] using (Hx.i_Judge_bool c)) (.cons (by simpa [vOf, btn, caL] using (Hx.i_Judge_int c)) (.cons (by simpa [vOf, btn, caL] using (Hx.i_Judge_list c)) (.cons (by simpa [vOf, btn, caL] using (Hx.i_Judge_str c)) (.cons (by simpa [vOf, btn, caL] using (Hx.i_Judge_tuple c)) (.cons (by simpa [vOf, btn, caL] using (Hx.i_NoBook_bool c)) (.cons (by simpa [vOf, btn, caL] using (Hx.i_NoBook_int c)) (.cons (by simpa [vOf, btn, caL] using (Hx.i_NoBook_list c)) (.cons (by simpa [vOf, btn, caL] using (Hx.i_NoBook_str c)) (.cons (by simpa [vOf, btn, caL] using (Hx.i_NoBook_tuple c)) (.nil))))))))))),
   KTplS.rep (ts := ["calls", "answers", "open", "ends", "left", "rests", "closed", "cut", "gone"]) (by decide +kernel) (Hx.kt_STANDS c),
   PySem.W.mg_none_of X G (Hx.z_all c),
   PySem.W.mg_none_of X G (Hx.z_bool c),
   PySem.W.mg_none_of X G (Hx.z_dict c),
   PySem.W.mg_none_of X G (Hx.z_enumerate c),
   PySem.W.mg_none_of X G (Hx.z_int c),
   PySem.W.mg_none_of X G (Hx.z_isinstance c),
   PySem.W.mg_none_of X G (Hx.z_len c),
   PySem.W.mg_none_of X G (Hx.z_list c),
   PySem.W.mg_none_of X G (Hx.z_max c),
   PySem.W.mg_none_of X G (Hx.z_range c),
   PySem.W.mg_none_of X G (Hx.z_repr c),
   PySem.W.mg_none_of X G (Hx.z_sorted c),
   PySem.W.mg_none_of X G (Hx.z_str c),
   PySem.W.mg_none_of X G (Hx.z_tuple c),
   Hk.intB_ok X G (Hx.y_BYTE c),
   Hk.intB_ok X G (Hx.y_MOST_BYTE c),
   Hk.intB_ok X G (Hx.y_MOST_DATA c),
   Hk.intB_ok X G (Hx.y_SIZE c),
   True.intro⟩
theorem all_mk {l : PySem.W.OpenLaw} {w : World} {K : Hk.Fk} {h : Heap} {mg : Str → Option Value} {fa : Addr} (X : K.In h) (G : h.Ns mainGlobals mg) (hfa : mg "law" = some (.ref fa)) (c : Hk.SaysK Hx.exs Hx.fn Hx.ts w K) :
    ∃ fd : FuncData, (∀ (s : Shared) (v : Value), BindsTo s fd ⟨[v], []⟩ [("_law_script", v)]) ∧ ∀ base : Heap, K.In base → base.Ns mainGlobals mg → L2.FnG l.prog w K mg base CX0 9 fa fd ["_law_script"] (spLaw K) := by
  have e := hfa.symm.trans (PySem.W.mg_of X G (Hx.a30 c))
  cases e
  have T := txt_ok X G c
  obtain ⟨fd0, F0⟩ := Hx.F0 c
  have b0 := F0.binds (ps := ["_law_number", "_law_pairs_here"]) fun _ _ _ _ _ _ us hl => match us, hl with | [_, _], _ => rfl
  obtain ⟨fd1, F1⟩ := Hx.F1 c
  have b1 := F1.binds (ps := ["_law_cell", "_law_sizes"]) fun _ _ _ _ _ _ us hl => match us, hl with | [_, _], _ => rfl
  obtain ⟨fd2, F2⟩ := Hx.F2 c
  have b2 := F2.binds (ps := ["_law_cell"]) fun _ _ _ _ _ _ us hl => match us, hl with | [_], _ => rfl
  obtain ⟨fd3, F3⟩ := Hx.F3 c
  have b3 := F3.binds (ps := ["_law_cells_here"]) fun _ _ _ _ _ _ us hl => match us, hl with | [_], _ => rfl
  obtain ⟨fd4, F4⟩ := Hx.F4 c
  have b4 := F4.binds (ps := ["_law_script"]) fun _ _ _ _ _ _ us hl => match us, hl with | [_], _ => rfl
  obtain ⟨fd5, F5⟩ := Hx.F5 c
  have b5 := F5.binds (ps := ["_law_book_here", "_law_word", "_law_talk"]) fun _ _ _ _ _ _ us hl => match us, hl with | [_, _, _], _ => rfl
  obtain ⟨fd6, F6⟩ := Hx.F6 c
  have b6 := F6.binds (ps := ["_law_line"]) fun _ _ _ _ _ _ us hl => match us, hl with | [_], _ => rfl
  obtain ⟨fd7, F7⟩ := Hx.F7 c
  have b7 := F7.binds (ps := ["_law_book_here", "_law_number"]) fun _ _ _ _ _ _ us hl => match us, hl with | [_, _], _ => rfl
  obtain ⟨fd8, F8⟩ := Hx.F8 c
  have b8 := F8.binds (ps := ["_law_book_here"]) fun _ _ _ _ _ _ us hl => match us, hl with | [_], _ => rfl
  obtain ⟨fd9, F9⟩ := Hx.F9 c
  have b9 := F9.binds (ps := ["_law_book_here"]) fun _ _ _ _ _ _ us hl => match us, hl with | [_], _ => rfl
  obtain ⟨fd10, F10⟩ := Hx.F10 c
  have b10 := F10.binds (ps := ["_law_thing", "_law_paper_here"]) fun _ _ _ _ _ _ us hl => match us, hl with | [_, _], _ => rfl
  obtain ⟨fd11, F11⟩ := Hx.F11 c
  have b11 := F11.binds (ps := ["_law_paper_here", "_law_cell"]) fun _ _ _ _ _ _ us hl => match us, hl with | [_, _], _ => rfl
  obtain ⟨fd12, F12⟩ := Hx.F12 c
  have b12 := F12.binds (ps := ["self"]) fun _ _ _ _ _ _ us hl => match us, hl with | [_], _ => rfl
  obtain ⟨fd13, F13⟩ := Hx.F13 c
  have b13 := F13.binds (ps := ["talk", "other"]) fun _ _ _ _ _ _ us hl => match us, hl with | [_, _], _ => rfl
  obtain ⟨fd14, F14⟩ := Hx.F14 c
  have b14 := F14.binds (ps := ["self", "talk"]) fun _ _ _ _ _ _ us hl => match us, hl with | [_, _], _ => rfl
  obtain ⟨fd15, F15⟩ := Hx.F15 c
  have b15 := F15.binds (ps := ["self", "talk", "data"]) fun _ _ _ _ _ _ us hl => match us, hl with | [_, _, _], _ => rfl
  obtain ⟨fd16, F16⟩ := Hx.F16 c
  have b16 := F16.binds (ps := ["line"]) fun _ _ _ _ _ _ us hl => match us, hl with | [_], _ => rfl
  obtain ⟨fd17, F17⟩ := Hx.F17 c
  have b17 := F17.binds (ps := ["self", "line"]) fun _ _ _ _ _ _ us hl => match us, hl with | [_, _], _ => rfl
  obtain ⟨fd18, F18⟩ := Hx.F18 c
  have b18 := F18.binds (ps := ["thing", "most"]) fun _ _ _ _ _ _ us hl => match us, hl with | [_, _], _ => rfl
  obtain ⟨fd19, F19⟩ := Hx.F19 c
  have b19 := F19.binds (ps := ["thing", "least", "most"]) fun _ _ _ _ _ _ us hl => match us, hl with | [_, _, _], _ => rfl
  obtain ⟨fd20, F20⟩ := Hx.F20 c
  have b20 := F20.binds (ps := ["thing"]) fun _ _ _ _ _ _ us hl => match us, hl with | [_], _ => rfl
  obtain ⟨fd21, F21⟩ := Hx.F21 c
  have b21 := F21.binds (ps := ["word", "more"]) fun _ _ _ _ _ _ us hl => match us, hl with | [_, _], _ => rfl
  obtain ⟨fd22, F22⟩ := Hx.F22 c
  have b22 := F22.binds (ps := ["thing"]) fun _ _ _ _ _ _ us hl => match us, hl with | [_], _ => rfl
  obtain ⟨fd23, F23⟩ := Hx.F23 c
  have b23 := F23.binds (ps := ["thing"]) fun _ _ _ _ _ _ us hl => match us, hl with | [_], _ => rfl
  obtain ⟨fd24, F24⟩ := Hx.F24 c
  have b24 := F24.binds (ps := ["book"]) fun _ _ _ _ _ _ us hl => match us, hl with | [_], _ => rfl
  obtain ⟨fd25, F25⟩ := Hx.F25 c
  have b25 := F25.binds (ps := ["book"]) fun _ _ _ _ _ _ us hl => match us, hl with | [_], _ => rfl
  obtain ⟨fd26, F26⟩ := Hx.F26 c
  have b26 := F26.binds (ps := ["book"]) fun _ _ _ _ _ _ us hl => match us, hl with | [_], _ => rfl
  obtain ⟨fd27, F27⟩ := Hx.F27 c
  have b27 := F27.binds (ps := ["thing"]) fun _ _ _ _ _ _ us hl => match us, hl with | [_], _ => rfl
  obtain ⟨fd28, F28⟩ := Hx.F28 c
  have b28 := F28.binds (ps := ["thing"]) fun _ _ _ _ _ _ us hl => match us, hl with | [_], _ => rfl
  obtain ⟨fd29, F29⟩ := Hx.F29 c
  have b29 := F29.binds (ps := ["book", "paper"]) fun _ _ _ _ _ _ us hl => match us, hl with | [_, _], _ => rfl
  obtain ⟨fd30, F30⟩ := Hx.F30 c
  have b30 := F30.binds (ps := ["_law_script"]) fun _ _ _ _ _ _ us hl => match us, hl with | [_], _ => rfl
  refine ⟨fd30, fun s v => ?_, fun base _ _ => ?_⟩
  · obtain ⟨oc, od, kV, doc, pm, an, cdv, ct, osl, rfl, lk, hcd⟩ := F30.ex
    exact .of_eq rfl
  have C_l_begun_book : Dx l.prog w K mg base 1 "_law_begun_book" (SpF K (caL K) F_l_begun_book) := Dx.of2 (ok_l_begun_book (P := l.prog) (w := w) (mg := mg) (base := base) T F0 ) F0 (PySem.W.mg_of X G (Hx.a0 c)) b0
  have C_l_digits : Dx l.prog w K mg base 1 "_law_digits" (SpF K (caL K) F_l_digits) := Dx.of2 (ok_l_digits (P := l.prog) (w := w) (mg := mg) (base := base) T F1 ) F1 (PySem.W.mg_of X G (Hx.a1 c)) b1
  have C_l_pairs : Dx l.prog w K mg base 2 "_law_pairs" (SpF K (caL K) F_l_pairs) := Dx.of2 (ok_l_pairs (P := l.prog) (w := w) (mg := mg) (base := base) T F2 C_l_digits) F2 (PySem.W.mg_of X G (Hx.a2 c)) b2
  have C_l_book : Dx l.prog w K mg base 3 "_law_book" (SpF K (caL K) F_l_book) := Dx.of2 (ok_l_book (P := l.prog) (w := w) (mg := mg) (base := base) T F3 C_l_begun_book C_l_digits C_l_pairs) F3 (PySem.W.mg_of X G (Hx.a3 c)) b3
  have C_l_cells : Dx l.prog w K mg base 1 "_law_cells" (SpF K (caL K) F_l_cells) := Dx.of2 (ok_l_cells (P := l.prog) (w := w) (mg := mg) (base := base) T F4 ) F4 (PySem.W.mg_of X G (Hx.a4 c)) b4
  have C_l_bytes : Dx l.prog w K mg base 1 "_law_bytes" (SpF K (caL K) F_l_bytes) := Dx.of2 (ok_l_bytes (P := l.prog) (w := w) (mg := mg) (base := base) T F5 ) F5 (PySem.W.mg_of X G (Hx.a5 c)) b5
  have C_l_partner : Dx l.prog w K mg base 1 "_law_partner" (SpF K (caL K) F_l_partner) := Dx.of2 (ok_l_partner (P := l.prog) (w := w) (mg := mg) (base := base) T F6 ) F6 (PySem.W.mg_of X G (Hx.a6 c)) b6
  have C_l_line_right : Dx l.prog w K mg base 2 "_law_line_right" (SpF K (caL K) F_l_line_right) := Dx.of2 (ok_l_line_right (P := l.prog) (w := w) (mg := mg) (base := base) T F7 C_l_bytes C_l_partner) F7 (PySem.W.mg_of X G (Hx.a7 c)) b7
  have C_l_due : Dx l.prog w K mg base 3 "_law_due" (SpF K (caL K) F_l_due) := Dx.of2 (ok_l_due (P := l.prog) (w := w) (mg := mg) (base := base) T F8 C_l_line_right) F8 (PySem.W.mg_of X G (Hx.a8 c)) b8
  have C_l_paper : Dx l.prog w K mg base 2 "_law_paper" (SpF K (caL K) F_l_paper) := Dx.of2 (ok_l_paper (P := l.prog) (w := w) (mg := mg) (base := base) T F9 C_l_bytes C_l_partner) F9 (PySem.W.mg_of X G (Hx.a9 c)) b9
  have C_l_same : L2.Dg l.prog w K mg base 1 "_law_same" (SpF K (caL K) F_l_same) := ⟨_, fd10, _, ok_l_same (P := l.prog) (w := w) (mg := mg) (base := base) T F10 , PySem.W.mg_of X G (Hx.a10 c), F10.kp, b10⟩
  have C_l_spoilt : Dx l.prog w K mg base 2 "_law_spoilt" (SpF K (caL K) F_l_spoilt) := Dx.of2 (ok_l_spoilt (P := l.prog) (w := w) (mg := mg) (base := base) T F11 C_l_digits) F11 (PySem.W.mg_of X G (Hx.a11 c)) b11
  have M_Judge : Mx l.prog w K mg base 1 "Judge" (caL K "Judge") (SpF K (caL K) F_Judge___init__) := Mx.of ⟨Hx.mk_Judge c, Hx.a12 c, Hx.i12 c, Hx.kc_Judge c⟩ (ok_Judge___init__ (P := l.prog) (w := w) (mg := mg) (base := base) T F12 ) (PySem.W.mg_of X G (Hx.g_Judge c)) b12
  have C_partner_of : Dx l.prog w K mg base 1 "partner_of" (SpF K (caL K) F_partner_of) := Dx.of2 (ok_partner_of (P := l.prog) (w := w) (mg := mg) (base := base) T F13 ) F13 (PySem.W.mg_of X G (Hx.a13 c)) b13
  have M_Judge_source_of : SM.Mt l.prog w K mg base 2 (caL K "Judge") "source_of" (SpF K (caL K) F_Judge_source_of) := SM.Mt.of ⟨Hx.a14 c, Hx.i14 c, F14.kp⟩ (ok_Judge_source_of (P := l.prog) (w := w) (mg := mg) (base := base) T F14 C_partner_of) b14
  have M_Judge_read_right : SM.Mt l.prog w K mg base 3 (caL K "Judge") "read_right" (SpF K (caL K) F_Judge_read_right) := SM.Mt.of ⟨Hx.a15 c, Hx.i15 c, F15.kp⟩ (ok_Judge_read_right (P := l.prog) (w := w) (mg := mg) (base := base) T F15 M_Judge_source_of) b15
  have C_talk_of : Dx l.prog w K mg base 1 "talk_of" (SpF K (caL K) F_talk_of) := Dx.of2 (ok_talk_of (P := l.prog) (w := w) (mg := mg) (base := base) T F16 ) F16 (PySem.W.mg_of X G (Hx.a16 c)) b16
  have M_Judge_follow : SM.Mt l.prog w K mg base 4 (caL K "Judge") "follow" (SpF K (caL K) F_Judge_follow) := SM.Mt.of ⟨Hx.a17 c, Hx.i17 c, F17.kp⟩ (ok_Judge_follow (P := l.prog) (w := w) (mg := mg) (base := base) T F17 M_Judge_read_right C_talk_of) b17
  have C_is_between : Dx l.prog w K mg base 1 "is_between" (SpF K (caL K) F_is_between) := Dx.of2 (ok_is_between (P := l.prog) (w := w) (mg := mg) (base := base) T F18 ) F18 (PySem.W.mg_of X G (Hx.a18 c)) b18
  have C_is_whole : Dx l.prog w K mg base 1 "is_whole" (SpF K (caL K) F_is_whole) := Dx.of2 (ok_is_whole (P := l.prog) (w := w) (mg := mg) (base := base) T F19 ) F19 (PySem.W.mg_of X G (Hx.a19 c)) b19
  have C_is_data : Dx l.prog w K mg base 2 "is_data" (SpF K (caL K) F_is_data) := Dx.of2 (ok_is_data (P := l.prog) (w := w) (mg := mg) (base := base) T F20 C_is_whole) F20 (PySem.W.mg_of X G (Hx.a20 c)) b20
  have C_is_more : Dx l.prog w K mg base 3 "is_more" (SpF K (caL K) F_is_more) := Dx.of2 (ok_is_more (P := l.prog) (w := w) (mg := mg) (base := base) T F21 C_is_between C_is_data) F21 (PySem.W.mg_of X G (Hx.a21 c)) b21
  have C_is_line : Dx l.prog w K mg base 4 "is_line" (SpF K (caL K) F_is_line) := Dx.of2 (ok_is_line (P := l.prog) (w := w) (mg := mg) (base := base) T F22 C_is_between C_is_more) F22 (PySem.W.mg_of X G (Hx.a22 c)) b22
  have C_need_book : Dx l.prog w K mg base 5 "need_book" (SpF K (caL K) F_need_book) := Dx.of2 (ok_need_book (P := l.prog) (w := w) (mg := mg) (base := base) T F23 C_is_line) F23 (PySem.W.mg_of X G (Hx.a23 c)) b23
  have C_judged : Dx l.prog w K mg base 6 "judged" (SpF K (caL K) F_judged) := Dx.of2 (ok_judged (P := l.prog) (w := w) (mg := mg) (base := base) T F24 M_Judge M_Judge_follow C_need_book) F24 (PySem.W.mg_of X G (Hx.a24 c)) b24
  have C_places_written : Dx l.prog w K mg base 2 "places_written" (SpF K (caL K) F_places_written) := Dx.of2 (ok_places_written (P := l.prog) (w := w) (mg := mg) (base := base) T F25 C_talk_of) F25 (PySem.W.mg_of X G (Hx.a25 c)) b25
  have C_paper_of : Dx l.prog w K mg base 7 "paper_of" (SpF K (caL K) F_paper_of) := Dx.of2 (ok_paper_of (P := l.prog) (w := w) (mg := mg) (base := base) T F26 C_judged C_partner_of C_places_written C_talk_of) F26 (PySem.W.mg_of X G (Hx.a26 c)) b26
  have C_is_pair : Dx l.prog w K mg base 1 "is_pair" (SpF K (caL K) F_is_pair) := Dx.of2 (ok_is_pair (P := l.prog) (w := w) (mg := mg) (base := base) T F27 ) F27 (PySem.W.mg_of X G (Hx.a27 c)) b27
  have C_is_formed : Dx l.prog w K mg base 2 "is_formed" (SpF K (caL K) F_is_formed) := Dx.of2 (ok_is_formed (P := l.prog) (w := w) (mg := mg) (base := base) T F28 C_is_pair) F28 (PySem.W.mg_of X G (Hx.a28 c)) b28
  have C_shows : Dx l.prog w K mg base 8 "shows" (SpF K (caL K) F_shows) := Dx.of2 (ok_shows (P := l.prog) (w := w) (mg := mg) (base := base) T F29 C_is_formed C_paper_of) F29 (PySem.W.mg_of X G (Hx.a29 c)) b29
  exact (ok_law T F30 C_l_book C_l_cells C_l_due C_l_paper C_l_same C_l_spoilt C_paper_of C_shows).imp (law_imp rfl)
end Kk
open PySem PySem.W PyProof.Rows PySem.Calls in
set_option maxRecDepth 100000 in
set_option maxHeartbeats 0 in
theorem PySem.Challenge.cw_surewire_k64_papers_holds : PySem.Challenge.rw_surewire_k64_papers.Holds := by
  w_on; o_law
  refine HandSHeadRun.head_any (r := OpenLaw.row PySem.Challenge.rw_surewire_k64_papers) (q := Hx.qv) (H := Hx.hk) (ob := Hx.ob) (M := 3668) (loose := Hx.names) (d := HandSHeadRun.topDef (OpenLaw.row PySem.Challenge.rw_surewire_k64_papers).prog 40) (kwd := []) Hx.ob_eq (by kernel_rfl) (fun s => by kernel_rfl) Hx.run (by kernel_rfl) (by kernel_rfl) (by kernel_rfl) (by rfl) (by first | assumption | decide +kernel) (by decide +kernel) ⟨rfl, rfl, rfl, rfl, rfl, by decide +kernel⟩ ?hw ?hc
  case hw => w_witness2
  case hc =>
    refine L2.walk_ofG (l := PySem.Challenge.rw_surewire_k64_papers) (n := 63) (k := 9) (x := "_law_script") (CX := L2.CX0) rfl (by decide) (by kernel_rfl) ⟨rfl, by decide, by decide⟩ ?F (fun _ _ _ _ z => z)
    intro w mg fa h Y G hmg0
    obtain ⟨K, KX, c⟩ := Y
    have hmg : mg ("law" : PySem.Str) = some (.ref fa) := by
      have e : (HandSHeadRun.topDef (OpenLaw.row PySem.Challenge.rw_surewire_k64_papers).prog 40).name = ("law" : PySem.Str) := by kernel_rfl
      rw [← e]
      exact hmg0
    obtain ⟨fd, hb, hF⟩ := Kk.all_mk (l := PySem.Challenge.rw_surewire_k64_papers) (w := w) KX G hmg c
    exact ⟨K, fd, Kk.spLaw K, KX, hb, fun H a ns hl _ hS => ⟨a, ns, rfl, hS, hl, fun _ => rfl⟩, hF⟩
#print axioms PySem.Challenge.cw_surewire_k64_papers_holds
