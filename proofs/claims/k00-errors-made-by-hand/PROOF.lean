import PyProof.Rows.All
import Wide.All
import OpenK.AllK
import Wide.FinOn
import HandS.ForMost
import HandS.ForExc
import HandS.TupAny
import HandS.Wide
import HandS.Zip
import HandS.Replace
import HandS.TupMul
import PyProof.ReprLen
import HandS.Zip0
import HandS.Conv
import HandS.Dict
import HandS.Sort
import KE.GoesEnum
import KE.GoesMore
import HandS.SortOrd
import HandS.Steps
import HandS.NoneIn
import HandS.IsInst
import PyProof.NeKinds
import HandS.Style
import KE.KDictKeyed
import KE.KeyNested
import KE.KDictDisplayH
import HandS.TupLen
import HandS.SortKw
import KE.DataMinMax
import HandS.GenList
import PyProof.GenRules
import KE.DataEq
import KE.SortData
import PyProof.Walk
import PyProof.WalkLemmas
import HandS.Iter
import HandS.ExcField
import HandS.ExcInit
import HandS.TryMany
import HandS.WordsExc
import KE.KExcInit
import HandS.ExcIs
import KE.KExcLine
import HandS.Defaults
import KE.GoesZip
import HandS.More
import HandS.SortInts
import PyProof.Rows.CallKw2
import HandS.FStr
import HandS.ReplaceLit
import HandS.ReplaceList
import HandS.RaiseMore
import HandS.ExcValue
import KE.KExcIs
import KE.HD2
import HandS.HeadHook2
import PySem.Challenge.RW_pairedaway_k00_errors_made_by_hand
set_option Elab.async false
set_option linter.all false
set_option maxRecDepth 100000
set_option maxHeartbeats 4000000
/-! L3ha: the head by a few kernel runs (KE.HD0 to HD2), the facts read off the heap behind the top by a Hook of one's own: nothing of the top's way is written out. -/
namespace L3
open PySem PySem.Spec PyProof.Rows L2
/-- the facts o of the objects at the addresses as, as v tells them -/
def hookQ {A : Type} (as : List Addr) (o : PySem.W.Frag → A) (v : A) : PySem.W.Hook where
  α := A
  obs := fun s => o (He.frG s.heap.get? as)
  val := fun _ => v
  says := fun _ h => ∃ K : PySem.W.Frag, K.In h ∧ o K = v
  of := fun _ _ e => ⟨_, He.frG_in, e⟩
  keeps := fun _ _ _ ⟨K, hK, c⟩ k => ⟨K, PySem.W.Frag.In.keeps hK k, c⟩
theorem hookQ_ob {A : Type} {as : List Addr} {o : PySem.W.Frag → A} {v : A} (s : PySem.W.SharedT) : o (He.frG (HeadRun.getT s) as) = (hookQ as o v).obs s.abs := by
  have e : HeadRun.getT s = s.abs.heap.get? := funext fun a => HeadRun.getT_eq s a
  rw [e]
  rfl
theorem map_three {S A B C : Type} {x : Option S} {f : S → A} {g : S → B} {h : S → C} {a : A} {b : B} {c : C} (h1 : x.map (fun s => (f s, g s)) = some (a, b)) (h2 : x.map h = some c) : x.map (fun s => (f s, g s, h s)) = some (a, b, c) := by
  cases x with
  | none => cases h1
  | some s =>
    have e1 : (f s, g s) = (a, b) := Option.some.inj h1
    have e2 : h s = c := Option.some.inj h2
    obtain ⟨e3, e4⟩ := Prod.mk.inj e1
    show some (f s, g s, h s) = some (a, b, c)
    rw [e2, e3, e4]
theorem run_of {A : Type} {r : PySem.W.OpenRow} {q : Program} {as : List Addr} {o : PySem.W.Frag → A} {v : A} {M : Nat} {loose : List Str} {w : World}
    (h1 : ∀ os : OsState, (HeadRun.endF (HeadRun.stepQ (HeadRun.denQ HeadRun.tabQ) r.prog w) M r.prog w os).map (fun s => (HeadRun.looksF r.prog (PySem.W.boot_heap w.params) s.abs, HeadRun.seenQ q loose (importedModules r.prog.main.body) (fun s => PySem.W.xlAt q [] s && PySem.W.recOk r.toRowW.records s) s.abs)) = some (true, PySem.W.openGood q loose))
    (h2 : ∀ os : OsState, (HeadRun.endF (HeadRun.stepQ (HeadRun.denQ HeadRun.tabQ) r.prog w) M r.prog w os).map (fun s => o (He.frG (HeadRun.getT s) as)) = some v) :
    HeadRun.RunEq r q (hookQ as o v) (fun s => o (He.frG (HeadRun.getT s) as)) M loose w := fun os => map_three (h1 os) (h2 os)
/-! ### tests -/
abbrev XD := He.FnD
/-- a def, its code; the defaults not looked at -/
def okX (K : PySem.W.Frag) (d : XD) : Bool := PySem.W.keepIn K (.ref (He.fAd K d.at_)) && (match K.lookup (He.fAd K d.at_) with
  | some ⟨_, _, .func fd, _⟩ => PySem.W.codeIn K fd.code d.qual
  | _ => false)
def valX (d : XD) : He.FnW := some (d.name, d.qual, d.params, .stmts d.body, d.scope, mainGlobals, [], builtinsNs)
/-- no default -/
def nodfX (K : PySem.W.Frag) (d : XD) : Bool := match K.lookup (He.fAd K d.at_) with
  | some ⟨_, _, .func fd, _⟩ => (match fd.defaults with
    | .none => true
    | _ => false)
  | _ => false
theorem fnX_any {K : PySem.W.Frag} {d : XD} (e : He.fnW K d.at_ = valX d) (c : okX K d = true) :
    PySem.W.keepIn K (.ref (He.fAd K d.at_)) = true ∧ ∃ oc od osl dV kV doc pm an cdv ct, K.lookup (He.fAd K d.at_) = some ⟨oc, od, .func (PySem.W.fnOf d.name d.qual d.params d.body d.scope dV kV doc pm an cdv ct), osl⟩ ∧ PySem.W.codeIn K cdv d.qual = true := by
  obtain ⟨k1, c2⟩ := He.ba c
  refine ⟨k1, ?_⟩
  unfold He.fnW at e
  cases q : K.lookup (He.fAd K d.at_) with
  | none =>
    rw [q] at c2
    cases c2
  | some o =>
    obtain ⟨oc, od, dt, osl⟩ := o
    rw [q] at c2 e
    cases dt with
    | func fd =>
      obtain ⟨q1, q2, q3, q4, q5, q6, q7, q8, q9, qa, qb, qc, qd, qe, qf⟩ := fd
      have e2 : (some (q1, q2, q3, q4, q5, q6, q7, qf) : He.FnW) = valX d := e
      unfold valX at e2
      simp only [Option.some.injEq, Prod.mk.injEq] at e2
      obtain ⟨h1, h2, h3, h4, h5, h6, h7, h8⟩ := e2
      subst h1 h2 h3 h4 h5 h6 h7 h8
      exact ⟨oc, od, osl, q8, q9, qa, qb, qc, qd, qe, rfl, c2⟩
    | _ => cases c2
theorem fnX_ok {K : PySem.W.Frag} {d : XD} (e : He.fnW K d.at_ = valX d) (c : okX K d = true) (n : nodfX K d = true) :
    PySem.W.keepIn K (.ref (He.fAd K d.at_)) = true ∧ ∃ oc od osl kV doc pm an cdv ct, K.lookup (He.fAd K d.at_) = some ⟨oc, od, .func (PySem.W.fnOf d.name d.qual d.params d.body d.scope .none kV doc pm an cdv ct), osl⟩ ∧ PySem.W.codeIn K cdv d.qual = true := by
  obtain ⟨k1, oc, od, osl, dV, kV, doc, pm, an, cdv, ct, hl, hc⟩ := fnX_any e c
  unfold nodfX at n
  rw [hl] at n
  cases dV with
  | none => exact ⟨k1, oc, od, osl, kV, doc, pm, an, cdv, ct, hl, hc⟩
  | _ => cases n
def intX (K : PySem.W.Frag) (x : Str) (i : Int) : Bool := match PySem.W.nsIn K mainGlobals x with
  | some (some (.int j _)) => decide (j = i)
  | _ => false
theorem intX_ok {K : PySem.W.Frag} {x : Str} {i : Int} (c : intX K x i = true) : ∃ t, PySem.W.nsIn K mainGlobals x = some (some (.int i t)) := by
  unfold intX at c
  cases e : PySem.W.nsIn K mainGlobals x with
  | none =>
    rw [e] at c
    cases c
  | some o =>
    rw [e] at c
    cases o with
    | none => cases c
    | some v =>
      cases v with
      | int j t =>
        have ej : j = i := of_decide_eq_true c
        subst ej
        exact ⟨t, rfl⟩
      | _ => cases c
def clsX (K : PySem.W.Frag) (C ty : Value) (x : Str) (b : String) : Bool := match PySem.W.findCls K C ty x with
  | some (.val (.builtin z)) => decide (z = b)
  | _ => false
theorem clsX_ok {K : PySem.W.Frag} {C ty : Value} {x : Str} {b : String} (c : clsX K C ty x b = true) : PySem.W.findCls K C ty x = some (.val (.builtin b)) := by
  unfold clsX at c
  cases e : PySem.W.findCls K C ty x with
  | none =>
    rw [e] at c
    cases c
  | some f =>
    rw [e] at c
    cases f with
    | val v =>
      cases v with
      | builtin z =>
        have ez : z = b := of_decide_eq_true c
        subst ez
        rfl
      | _ => cases c
    | _ => cases c
def deX {A : Type} [DecidableEq A] (a b : A) : Bool := decide (a = b)
theorem deX_ok {A : Type} [DecidableEq A] {a b : A} (h : deX a b = true) : a = b := of_decide_eq_true h
theorem allX {l : List Bool} {n : Nat} (e : l = List.replicate n true) (i : Nat) {b : Bool} (h : l[i]? = some b) : b = true := by
  rw [e] at h
  obtain ⟨_, h2⟩ := List.getElem?_eq_some_iff.mp h
  rw [List.getElem_replicate] at h2
  exact h2.symm
theorem defX_at {K : PySem.W.Frag} {fn : List XD} (e : (fn.map fun d => He.fnW K d.at_) = fn.map valX) (i : Nat) {d : XD} (h : fn[i]? = some d) : He.fnW K d.at_ = valX d := by
  have e2 : (fn.map fun d => He.fnW K d.at_)[i]? = (fn.map valX)[i]? := by rw [e]
  rw [List.getElem?_map, List.getElem?_map, h] at e2
  exact Option.some.inj e2
end L3
namespace My
open PySem PySem.Spec PyProof.Rows L2 L3
def topS (i : Nat) : Stmt := PySem.Challenge.pw_pairedaway_k00_errors_made_by_hand.main.body.getD i (.Pass ⟨0, 0, 0, 0⟩)
abbrev s_BadText___init__ : Stmt := inClass (topS 3) 0
abbrev s_BadScheme___init__ : Stmt := inClass (topS 4) 0
abbrev s_BadRule___init__ : Stmt := inClass (topS 5) 0
abbrev s_BadWord___init__ : Stmt := inClass (topS 6) 0
abbrev s_BadLength___init__ : Stmt := inClass (topS 7) 0
abbrev s_NotRight___init__ : Stmt := inClass (topS 8) 0
abbrev s_NotLeft___init__ : Stmt := inClass (topS 9) 0
abbrev s_Faulty___init__ : Stmt := inClass (topS 12) 0
abbrev s_BadEdit___init__ : Stmt := inClass (topS 18) 0
abbrev s_Rejected___init__ : Stmt := inClass (topS 19) 0
abbrev s_NoPair___init__ : Stmt := inClass (topS 20) 0
abbrev s_NoVersion___init__ : Stmt := inClass (topS 21) 0
abbrev s_l_deck : Stmt := topS 102
abbrev s_l_draw : Stmt := topS 103
abbrev s_l_one : Stmt := topS 104
abbrev s_l_value : Stmt := topS 105
abbrev s_l_kinds : Stmt := topS 106
abbrev s_l_kinds_right : Stmt := topS 107
abbrev s_l_fields_right : Stmt := topS 108
abbrev s_l_bounds : Stmt := topS 109
abbrev s_law : Stmt := topS 110
section head
abbrev R : PySem.W.OpenRow := PySem.W.OpenLaw.row PySem.Challenge.rw_pairedaway_k00_errors_made_by_hand
def x0 : L3.XD := ⟨("_law_deck", none), "_law_deck", "_law_deck", defArgs s_l_deck, defBody s_l_deck, defScope s_l_deck⟩
def x1 : L3.XD := ⟨("_law_draw", none), "_law_draw", "_law_draw", defArgs s_l_draw, defBody s_l_draw, defScope s_l_draw⟩
def x2 : L3.XD := ⟨("_law_one", none), "_law_one", "_law_one", defArgs s_l_one, defBody s_l_one, defScope s_l_one⟩
def x3 : L3.XD := ⟨("_law_value", none), "_law_value", "_law_value", defArgs s_l_value, defBody s_l_value, defScope s_l_value⟩
def x4 : L3.XD := ⟨("_law_kinds", none), "_law_kinds", "_law_kinds", defArgs s_l_kinds, defBody s_l_kinds, defScope s_l_kinds⟩
def x5 : L3.XD := ⟨("_law_kinds_right", none), "_law_kinds_right", "_law_kinds_right", defArgs s_l_kinds_right, defBody s_l_kinds_right, defScope s_l_kinds_right⟩
def x6 : L3.XD := ⟨("_law_fields_right", none), "_law_fields_right", "_law_fields_right", defArgs s_l_fields_right, defBody s_l_fields_right, defScope s_l_fields_right⟩
def x7 : L3.XD := ⟨("_law_bounds", none), "_law_bounds", "_law_bounds", defArgs s_l_bounds, defBody s_l_bounds, defScope s_l_bounds⟩
def x8 : L3.XD := ⟨("law", none), "law", "law", defArgs s_law, defBody s_law, defScope s_law⟩
def x9 : L3.XD := ⟨("BadText", some "__init__"), "__init__", "BadText.__init__", defArgs s_BadText___init__, defBody s_BadText___init__, defScope s_BadText___init__⟩
def x10 : L3.XD := ⟨("BadScheme", some "__init__"), "__init__", "BadScheme.__init__", defArgs s_BadScheme___init__, defBody s_BadScheme___init__, defScope s_BadScheme___init__⟩
def x11 : L3.XD := ⟨("BadRule", some "__init__"), "__init__", "BadRule.__init__", defArgs s_BadRule___init__, defBody s_BadRule___init__, defScope s_BadRule___init__⟩
def x12 : L3.XD := ⟨("BadWord", some "__init__"), "__init__", "BadWord.__init__", defArgs s_BadWord___init__, defBody s_BadWord___init__, defScope s_BadWord___init__⟩
def x13 : L3.XD := ⟨("BadLength", some "__init__"), "__init__", "BadLength.__init__", defArgs s_BadLength___init__, defBody s_BadLength___init__, defScope s_BadLength___init__⟩
def x14 : L3.XD := ⟨("NotRight", some "__init__"), "__init__", "NotRight.__init__", defArgs s_NotRight___init__, defBody s_NotRight___init__, defScope s_NotRight___init__⟩
def x15 : L3.XD := ⟨("NotLeft", some "__init__"), "__init__", "NotLeft.__init__", defArgs s_NotLeft___init__, defBody s_NotLeft___init__, defScope s_NotLeft___init__⟩
def x16 : L3.XD := ⟨("Faulty", some "__init__"), "__init__", "Faulty.__init__", defArgs s_Faulty___init__, defBody s_Faulty___init__, defScope s_Faulty___init__⟩
def x17 : L3.XD := ⟨("BadEdit", some "__init__"), "__init__", "BadEdit.__init__", defArgs s_BadEdit___init__, defBody s_BadEdit___init__, defScope s_BadEdit___init__⟩
def x18 : L3.XD := ⟨("Rejected", some "__init__"), "__init__", "Rejected.__init__", defArgs s_Rejected___init__, defBody s_Rejected___init__, defScope s_Rejected___init__⟩
def x19 : L3.XD := ⟨("NoPair", some "__init__"), "__init__", "NoPair.__init__", defArgs s_NoPair___init__, defBody s_NoPair___init__, defScope s_NoPair___init__⟩
def x20 : L3.XD := ⟨("NoVersion", some "__init__"), "__init__", "NoVersion.__init__", defArgs s_NoVersion___init__, defBody s_NoVersion___init__, defScope s_NoVersion___init__⟩
def fnL : List L3.XD := [x0, x1, x2, x3, x4, x5, x6, x7, x8, x9, x10, x11, x12, x13, x14, x15, x16, x17, x18, x19, x20]
def ts0 (K : PySem.W.Frag) : List Bool := [L3.okX K x0,
    L3.nodfX K x0,
    L3.okX K x1,
    L3.nodfX K x1,
    L3.okX K x2,
    L3.nodfX K x2,
    L3.okX K x3,
    L3.nodfX K x3,
    L3.okX K x4,
    L3.nodfX K x4,
    L3.okX K x5,
    L3.nodfX K x5,
    L3.okX K x6,
    L3.nodfX K x6,
    L3.okX K x7,
    L3.nodfX K x7,
    L3.okX K x8,
    L3.nodfX K x8,
    L3.intX K "MAX_LETTERS" 4,
    L3.intX K "MAX_STATES" 8,
    L3.intX K "MAX_ROWS" 400,
    L3.intX K "MAX_PAIRS" 6,
    L3.intX K "MAX_WINDOW" 3,
    L3.intX K "MAX_LENGTH" 400,
    L3.intX K "MAX_STEPS" 10000,
    L3.intX K "MAX_EDITS" 60,
    L3.intX K "BATCH" 20,
    L3.okX K x9,
    L3.nodfX K x9,
    L3.okX K x10,
    L3.nodfX K x10,
    L3.okX K x11,
    L3.nodfX K x11,
    L3.okX K x12,
    L3.nodfX K x12,
    L3.okX K x13,
    L3.nodfX K x13,
    L3.okX K x14,
    L3.nodfX K x14,
    L3.okX K x15,
    L3.nodfX K x15,
    L3.okX K x16,
    L3.nodfX K x16,
    L3.okX K x17,
    L3.nodfX K x17,
    L3.okX K x18,
    L3.nodfX K x18,
    L3.okX K x19,
    L3.nodfX K x19,
    L3.okX K x20,
    L3.nodfX K x20,
    L3.deX (PySem.W.nsIn K mainGlobals "_law_deck") (some (some (.ref (He.ga K "_law_deck")))),
    L3.deX (PySem.W.nsIn K mainGlobals "_law_draw") (some (some (.ref (He.ga K "_law_draw")))),
    L3.deX (PySem.W.nsIn K mainGlobals "_law_one") (some (some (.ref (He.ga K "_law_one")))),
    L3.deX (PySem.W.nsIn K mainGlobals "_law_value") (some (some (.ref (He.ga K "_law_value")))),
    L3.deX (PySem.W.nsIn K mainGlobals "_law_kinds") (some (some (.ref (He.ga K "_law_kinds")))),
    L3.deX (PySem.W.nsIn K mainGlobals "_law_kinds_right") (some (some (.ref (He.ga K "_law_kinds_right")))),
    L3.deX (PySem.W.nsIn K mainGlobals "_law_fields_right") (some (some (.ref (He.ga K "_law_fields_right")))),
    L3.deX (PySem.W.nsIn K mainGlobals "_law_bounds") (some (some (.ref (He.ga K "_law_bounds")))),
    L3.deX (PySem.W.nsIn K mainGlobals "law") (some (some (.ref (He.ga K "law")))),
    L3.deX (PySem.W.nsIn K mainGlobals "PairError") (some (some (.ref (He.ga K "PairError")))),
    PySem.W.readsIn K (He.ga K "PairError") (.type "type"),
    L3.clsX K (.ref (He.ga K "PairError")) (.type "type") "__init__" "ValueError.__init__",
    L3.deX (PySem.W.specialIn K (.ref (He.ga K "PairError")) "__getattribute__") (some (some (.builtin "type.__getattribute__"))),
    L3.clsX K (.type "LookupError") (.type "type") "__init__" "LookupError.__init__",
    L3.deX (PySem.W.nsIn K mainGlobals "Busy") (some (some (.ref (He.ga K "Busy")))),
    PySem.W.keepIn K (.ref (He.ga K "Busy")),
    PySem.W.excIn K (He.ga K "Busy") [.type "ValueError", .type "Exception", .type "BaseException", .type "object"] "ValueError.__new__",
    L3.deX (PySem.W.subIn K (.ref (He.ga K "Busy")) (.type "BaseException")) (some true),
    L3.deX (PySem.W.typeIn K (.ref (He.ga K "Busy"))) (some (.type "type"))]
def ts1 (K : PySem.W.Frag) : List Bool := [L3.deX (PySem.W.nsIn K mainGlobals "TooManyEdits") (some (some (.ref (He.ga K "TooManyEdits")))),
    PySem.W.keepIn K (.ref (He.ga K "TooManyEdits")),
    PySem.W.excIn K (He.ga K "TooManyEdits") [.type "ValueError", .type "Exception", .type "BaseException", .type "object"] "ValueError.__new__",
    L3.deX (PySem.W.subIn K (.ref (He.ga K "TooManyEdits")) (.type "BaseException")) (some true),
    L3.deX (PySem.W.typeIn K (.ref (He.ga K "TooManyEdits"))) (some (.type "type")),
    L3.deX (PySem.W.nsIn K mainGlobals "NothingToUndo") (some (some (.ref (He.ga K "NothingToUndo")))),
    PySem.W.keepIn K (.ref (He.ga K "NothingToUndo")),
    PySem.W.excIn K (He.ga K "NothingToUndo") [.type "ValueError", .type "Exception", .type "BaseException", .type "object"] "ValueError.__new__",
    L3.deX (PySem.W.subIn K (.ref (He.ga K "NothingToUndo")) (.type "BaseException")) (some true),
    L3.deX (PySem.W.typeIn K (.ref (He.ga K "NothingToUndo"))) (some (.type "type")),
    L3.deX (PySem.W.nsIn K mainGlobals "NothingToRedo") (some (some (.ref (He.ga K "NothingToRedo")))),
    PySem.W.keepIn K (.ref (He.ga K "NothingToRedo")),
    PySem.W.excIn K (He.ga K "NothingToRedo") [.type "ValueError", .type "Exception", .type "BaseException", .type "object"] "ValueError.__new__",
    L3.deX (PySem.W.subIn K (.ref (He.ga K "NothingToRedo")) (.type "BaseException")) (some true),
    L3.deX (PySem.W.typeIn K (.ref (He.ga K "NothingToRedo"))) (some (.type "type")),
    L3.deX (PySem.W.nsIn K mainGlobals "BadEdits") (some (some (.ref (He.ga K "BadEdits")))),
    PySem.W.keepIn K (.ref (He.ga K "BadEdits")),
    PySem.W.excIn K (He.ga K "BadEdits") [.type "ValueError", .type "Exception", .type "BaseException", .type "object"] "ValueError.__new__",
    L3.deX (PySem.W.subIn K (.ref (He.ga K "BadEdits")) (.type "BaseException")) (some true),
    L3.deX (PySem.W.typeIn K (.ref (He.ga K "BadEdits"))) (some (.type "type")),
    L3.deX (PySem.W.nsIn K mainGlobals "TooFar") (some (some (.ref (He.ga K "TooFar")))),
    PySem.W.keepIn K (.ref (He.ga K "TooFar")),
    PySem.W.excIn K (He.ga K "TooFar") [.type "ValueError", .type "Exception", .type "BaseException", .type "object"] "ValueError.__new__",
    L3.deX (PySem.W.subIn K (.ref (He.ga K "TooFar")) (.type "BaseException")) (some true),
    L3.deX (PySem.W.typeIn K (.ref (He.ga K "TooFar"))) (some (.type "type")),
    L3.deX (PySem.W.nsIn K mainGlobals "TooGreat") (some (some (.ref (He.ga K "TooGreat")))),
    PySem.W.keepIn K (.ref (He.ga K "TooGreat")),
    PySem.W.excIn K (He.ga K "TooGreat") [.type "ValueError", .type "Exception", .type "BaseException", .type "object"] "ValueError.__new__",
    L3.deX (PySem.W.subIn K (.ref (He.ga K "TooGreat")) (.type "BaseException")) (some true),
    L3.deX (PySem.W.typeIn K (.ref (He.ga K "TooGreat"))) (some (.type "type")),
    L3.deX (PySem.W.nsIn K mainGlobals "PairError") (some (some (.ref (He.ga K "PairError")))),
    PySem.W.keepIn K (.ref (He.ga K "PairError")),
    PySem.W.excIn K (He.ga K "PairError") [.type "ValueError", .type "Exception", .type "BaseException", .type "object"] "ValueError.__new__",
    L3.deX (PySem.W.subIn K (.ref (He.ga K "PairError")) (.type "BaseException")) (some true),
    L3.deX (PySem.W.typeIn K (.ref (He.ga K "PairError"))) (some (.type "type")),
    L3.deX (PySem.W.nsIn K mainGlobals "BadText") (some (some (.ref (He.ga K "BadText")))),
    PySem.W.keepIn K (.ref (He.ga K "BadText")),
    PySem.W.excInitIn K (He.ga K "BadText") [.type "ValueError", .type "Exception", .type "BaseException", .type "object"] "ValueError.__new__",
    PySem.W.excOver K (He.ga K "BadText") [.type "ValueError", .type "Exception", .type "BaseException", .type "object"],
    PySem.W.hasDictIn K (He.ga K "BadText"),
    L3.deX (PySem.W.findIn K (.ref (He.ga K "BadText")) "__setattr__") (some (some (.builtin "object.__setattr__"))),
    L3.deX (PySem.W.findIn K (.ref (He.ga K "BadText")) "__getattribute__") (some (some (.builtin "BaseException.__getattribute__"))),
    L3.deX (PySem.W.findIn K (.ref (He.ga K "BadText")) "__getattr__") (some none),
    L3.deX (PySem.W.subIn K (.ref (He.ga K "BadText")) (.type "BaseException")) (some true),
    L3.deX (PySem.W.typeIn K (.ref (He.ga K "BadText"))) (some (.type "type")),
    L3.deX (PySem.W.findIn K (.ref (He.ga K "BadText")) "line") (some none),
    L3.deX (PySem.W.findIn K (.ref (He.ga K "BadText")) "__init__") (some (some (.ref (He.ma K (He.ga K "BadText") "__init__")))),
    L3.deX (PySem.W.typeIn K (.ref (He.ma K (He.ga K "BadText") "__init__"))) (some (.type "function")),
    L3.deX (PySem.W.nsIn K mainGlobals "BadScheme") (some (some (.ref (He.ga K "BadScheme")))),
    PySem.W.keepIn K (.ref (He.ga K "BadScheme")),
    PySem.W.excInitIn K (He.ga K "BadScheme") [.type "ValueError", .type "Exception", .type "BaseException", .type "object"] "ValueError.__new__",
    PySem.W.excOver K (He.ga K "BadScheme") [.type "ValueError", .type "Exception", .type "BaseException", .type "object"],
    PySem.W.hasDictIn K (He.ga K "BadScheme"),
    L3.deX (PySem.W.findIn K (.ref (He.ga K "BadScheme")) "__setattr__") (some (some (.builtin "object.__setattr__"))),
    L3.deX (PySem.W.findIn K (.ref (He.ga K "BadScheme")) "__getattribute__") (some (some (.builtin "BaseException.__getattribute__"))),
    L3.deX (PySem.W.findIn K (.ref (He.ga K "BadScheme")) "__getattr__") (some none),
    L3.deX (PySem.W.subIn K (.ref (He.ga K "BadScheme")) (.type "BaseException")) (some true),
    L3.deX (PySem.W.typeIn K (.ref (He.ga K "BadScheme"))) (some (.type "type")),
    L3.deX (PySem.W.findIn K (.ref (He.ga K "BadScheme")) "error") (some none),
    L3.deX (PySem.W.findIn K (.ref (He.ga K "BadScheme")) "__init__") (some (some (.ref (He.ma K (He.ga K "BadScheme") "__init__")))),
    L3.deX (PySem.W.typeIn K (.ref (He.ma K (He.ga K "BadScheme") "__init__"))) (some (.type "function")),
    L3.deX (PySem.W.nsIn K mainGlobals "BadRule") (some (some (.ref (He.ga K "BadRule")))),
    PySem.W.keepIn K (.ref (He.ga K "BadRule")),
    PySem.W.excInitIn K (He.ga K "BadRule") [.type "ValueError", .type "Exception", .type "BaseException", .type "object"] "ValueError.__new__",
    PySem.W.excOver K (He.ga K "BadRule") [.type "ValueError", .type "Exception", .type "BaseException", .type "object"],
    PySem.W.hasDictIn K (He.ga K "BadRule"),
    L3.deX (PySem.W.findIn K (.ref (He.ga K "BadRule")) "__setattr__") (some (some (.builtin "object.__setattr__"))),
    L3.deX (PySem.W.findIn K (.ref (He.ga K "BadRule")) "__getattribute__") (some (some (.builtin "BaseException.__getattribute__"))),
    L3.deX (PySem.W.findIn K (.ref (He.ga K "BadRule")) "__getattr__") (some none),
    L3.deX (PySem.W.subIn K (.ref (He.ga K "BadRule")) (.type "BaseException")) (some true)]
def ts2 (K : PySem.W.Frag) : List Bool := [L3.deX (PySem.W.typeIn K (.ref (He.ga K "BadRule"))) (some (.type "type")),
    L3.deX (PySem.W.findIn K (.ref (He.ga K "BadRule")) "error") (some none),
    L3.deX (PySem.W.findIn K (.ref (He.ga K "BadRule")) "__init__") (some (some (.ref (He.ma K (He.ga K "BadRule") "__init__")))),
    L3.deX (PySem.W.typeIn K (.ref (He.ma K (He.ga K "BadRule") "__init__"))) (some (.type "function")),
    L3.deX (PySem.W.nsIn K mainGlobals "BadWord") (some (some (.ref (He.ga K "BadWord")))),
    PySem.W.keepIn K (.ref (He.ga K "BadWord")),
    PySem.W.excInitIn K (He.ga K "BadWord") [.type "ValueError", .type "Exception", .type "BaseException", .type "object"] "ValueError.__new__",
    PySem.W.excOver K (He.ga K "BadWord") [.type "ValueError", .type "Exception", .type "BaseException", .type "object"],
    PySem.W.hasDictIn K (He.ga K "BadWord"),
    L3.deX (PySem.W.findIn K (.ref (He.ga K "BadWord")) "__setattr__") (some (some (.builtin "object.__setattr__"))),
    L3.deX (PySem.W.findIn K (.ref (He.ga K "BadWord")) "__getattribute__") (some (some (.builtin "BaseException.__getattribute__"))),
    L3.deX (PySem.W.findIn K (.ref (He.ga K "BadWord")) "__getattr__") (some none),
    L3.deX (PySem.W.subIn K (.ref (He.ga K "BadWord")) (.type "BaseException")) (some true),
    L3.deX (PySem.W.typeIn K (.ref (He.ga K "BadWord"))) (some (.type "type")),
    L3.deX (PySem.W.findIn K (.ref (He.ga K "BadWord")) "word") (some none),
    L3.deX (PySem.W.findIn K (.ref (He.ga K "BadWord")) "__init__") (some (some (.ref (He.ma K (He.ga K "BadWord") "__init__")))),
    L3.deX (PySem.W.typeIn K (.ref (He.ma K (He.ga K "BadWord") "__init__"))) (some (.type "function")),
    L3.deX (PySem.W.nsIn K mainGlobals "BadLength") (some (some (.ref (He.ga K "BadLength")))),
    PySem.W.keepIn K (.ref (He.ga K "BadLength")),
    PySem.W.excInitIn K (He.ga K "BadLength") [.type "ValueError", .type "Exception", .type "BaseException", .type "object"] "ValueError.__new__",
    PySem.W.excOver K (He.ga K "BadLength") [.type "ValueError", .type "Exception", .type "BaseException", .type "object"],
    PySem.W.hasDictIn K (He.ga K "BadLength"),
    L3.deX (PySem.W.findIn K (.ref (He.ga K "BadLength")) "__setattr__") (some (some (.builtin "object.__setattr__"))),
    L3.deX (PySem.W.findIn K (.ref (He.ga K "BadLength")) "__getattribute__") (some (some (.builtin "BaseException.__getattribute__"))),
    L3.deX (PySem.W.findIn K (.ref (He.ga K "BadLength")) "__getattr__") (some none),
    L3.deX (PySem.W.subIn K (.ref (He.ga K "BadLength")) (.type "BaseException")) (some true),
    L3.deX (PySem.W.typeIn K (.ref (He.ga K "BadLength"))) (some (.type "type")),
    L3.deX (PySem.W.findIn K (.ref (He.ga K "BadLength")) "length") (some none),
    L3.deX (PySem.W.findIn K (.ref (He.ga K "BadLength")) "__init__") (some (some (.ref (He.ma K (He.ga K "BadLength") "__init__")))),
    L3.deX (PySem.W.typeIn K (.ref (He.ma K (He.ga K "BadLength") "__init__"))) (some (.type "function")),
    L3.deX (PySem.W.nsIn K mainGlobals "NotRight") (some (some (.ref (He.ga K "NotRight")))),
    PySem.W.keepIn K (.ref (He.ga K "NotRight")),
    PySem.W.excInitIn K (He.ga K "NotRight") [.type "ValueError", .type "Exception", .type "BaseException", .type "object"] "ValueError.__new__",
    PySem.W.excOver K (He.ga K "NotRight") [.type "ValueError", .type "Exception", .type "BaseException", .type "object"],
    PySem.W.hasDictIn K (He.ga K "NotRight"),
    L3.deX (PySem.W.findIn K (.ref (He.ga K "NotRight")) "__setattr__") (some (some (.builtin "object.__setattr__"))),
    L3.deX (PySem.W.findIn K (.ref (He.ga K "NotRight")) "__getattribute__") (some (some (.builtin "BaseException.__getattribute__"))),
    L3.deX (PySem.W.findIn K (.ref (He.ga K "NotRight")) "__getattr__") (some none),
    L3.deX (PySem.W.subIn K (.ref (He.ga K "NotRight")) (.type "BaseException")) (some true),
    L3.deX (PySem.W.typeIn K (.ref (He.ga K "NotRight"))) (some (.type "type")),
    L3.deX (PySem.W.findIn K (.ref (He.ga K "NotRight")) "which") (some none),
    L3.deX (PySem.W.findIn K (.ref (He.ga K "NotRight")) "__init__") (some (some (.ref (He.ma K (He.ga K "NotRight") "__init__")))),
    L3.deX (PySem.W.typeIn K (.ref (He.ma K (He.ga K "NotRight") "__init__"))) (some (.type "function")),
    L3.deX (PySem.W.nsIn K mainGlobals "NotLeft") (some (some (.ref (He.ga K "NotLeft")))),
    PySem.W.keepIn K (.ref (He.ga K "NotLeft")),
    PySem.W.excInitIn K (He.ga K "NotLeft") [.type "ValueError", .type "Exception", .type "BaseException", .type "object"] "ValueError.__new__",
    PySem.W.excOver K (He.ga K "NotLeft") [.type "ValueError", .type "Exception", .type "BaseException", .type "object"],
    PySem.W.hasDictIn K (He.ga K "NotLeft"),
    L3.deX (PySem.W.findIn K (.ref (He.ga K "NotLeft")) "__setattr__") (some (some (.builtin "object.__setattr__"))),
    L3.deX (PySem.W.findIn K (.ref (He.ga K "NotLeft")) "__getattribute__") (some (some (.builtin "BaseException.__getattribute__"))),
    L3.deX (PySem.W.findIn K (.ref (He.ga K "NotLeft")) "__getattr__") (some none),
    L3.deX (PySem.W.subIn K (.ref (He.ga K "NotLeft")) (.type "BaseException")) (some true),
    L3.deX (PySem.W.typeIn K (.ref (He.ga K "NotLeft"))) (some (.type "type")),
    L3.deX (PySem.W.findIn K (.ref (He.ga K "NotLeft")) "word") (some none),
    L3.deX (PySem.W.findIn K (.ref (He.ga K "NotLeft")) "__init__") (some (some (.ref (He.ma K (He.ga K "NotLeft") "__init__")))),
    L3.deX (PySem.W.typeIn K (.ref (He.ma K (He.ga K "NotLeft") "__init__"))) (some (.type "function")),
    L3.deX (PySem.W.nsIn K mainGlobals "Faulty") (some (some (.ref (He.ga K "Faulty")))),
    PySem.W.keepIn K (.ref (He.ga K "Faulty")),
    PySem.W.excInitIn K (He.ga K "Faulty") [.type "ValueError", .type "Exception", .type "BaseException", .type "object"] "ValueError.__new__",
    PySem.W.excOver K (He.ga K "Faulty") [.type "ValueError", .type "Exception", .type "BaseException", .type "object"],
    PySem.W.hasDictIn K (He.ga K "Faulty"),
    L3.deX (PySem.W.findIn K (.ref (He.ga K "Faulty")) "__setattr__") (some (some (.builtin "object.__setattr__"))),
    L3.deX (PySem.W.findIn K (.ref (He.ga K "Faulty")) "__getattribute__") (some (some (.builtin "BaseException.__getattribute__"))),
    L3.deX (PySem.W.findIn K (.ref (He.ga K "Faulty")) "__getattr__") (some none),
    L3.deX (PySem.W.subIn K (.ref (He.ga K "Faulty")) (.type "BaseException")) (some true),
    L3.deX (PySem.W.typeIn K (.ref (He.ga K "Faulty"))) (some (.type "type")),
    L3.deX (PySem.W.findIn K (.ref (He.ga K "Faulty")) "fault") (some none),
    L3.deX (PySem.W.findIn K (.ref (He.ga K "Faulty")) "__init__") (some (some (.ref (He.ma K (He.ga K "Faulty") "__init__")))),
    L3.deX (PySem.W.typeIn K (.ref (He.ma K (He.ga K "Faulty") "__init__"))) (some (.type "function")),
    L3.deX (PySem.W.nsIn K mainGlobals "BadEdit") (some (some (.ref (He.ga K "BadEdit"))))]
def ts3 (K : PySem.W.Frag) : List Bool := [PySem.W.keepIn K (.ref (He.ga K "BadEdit")),
    PySem.W.excInitIn K (He.ga K "BadEdit") [.type "ValueError", .type "Exception", .type "BaseException", .type "object"] "ValueError.__new__",
    PySem.W.excOver K (He.ga K "BadEdit") [.type "ValueError", .type "Exception", .type "BaseException", .type "object"],
    PySem.W.hasDictIn K (He.ga K "BadEdit"),
    L3.deX (PySem.W.findIn K (.ref (He.ga K "BadEdit")) "__setattr__") (some (some (.builtin "object.__setattr__"))),
    L3.deX (PySem.W.findIn K (.ref (He.ga K "BadEdit")) "__getattribute__") (some (some (.builtin "BaseException.__getattribute__"))),
    L3.deX (PySem.W.findIn K (.ref (He.ga K "BadEdit")) "__getattr__") (some none),
    L3.deX (PySem.W.subIn K (.ref (He.ga K "BadEdit")) (.type "BaseException")) (some true),
    L3.deX (PySem.W.typeIn K (.ref (He.ga K "BadEdit"))) (some (.type "type")),
    L3.deX (PySem.W.findIn K (.ref (He.ga K "BadEdit")) "index") (some none),
    L3.deX (PySem.W.findIn K (.ref (He.ga K "BadEdit")) "__init__") (some (some (.ref (He.ma K (He.ga K "BadEdit") "__init__")))),
    L3.deX (PySem.W.typeIn K (.ref (He.ma K (He.ga K "BadEdit") "__init__"))) (some (.type "function")),
    L3.deX (PySem.W.nsIn K mainGlobals "Rejected") (some (some (.ref (He.ga K "Rejected")))),
    PySem.W.keepIn K (.ref (He.ga K "Rejected")),
    PySem.W.excInitIn K (He.ga K "Rejected") [.type "ValueError", .type "Exception", .type "BaseException", .type "object"] "ValueError.__new__",
    PySem.W.excOver K (He.ga K "Rejected") [.type "ValueError", .type "Exception", .type "BaseException", .type "object"],
    PySem.W.hasDictIn K (He.ga K "Rejected"),
    L3.deX (PySem.W.findIn K (.ref (He.ga K "Rejected")) "__setattr__") (some (some (.builtin "object.__setattr__"))),
    L3.deX (PySem.W.findIn K (.ref (He.ga K "Rejected")) "__getattribute__") (some (some (.builtin "BaseException.__getattribute__"))),
    L3.deX (PySem.W.findIn K (.ref (He.ga K "Rejected")) "__getattr__") (some none),
    L3.deX (PySem.W.subIn K (.ref (He.ga K "Rejected")) (.type "BaseException")) (some true),
    L3.deX (PySem.W.typeIn K (.ref (He.ga K "Rejected"))) (some (.type "type")),
    L3.deX (PySem.W.findIn K (.ref (He.ga K "Rejected")) "index") (some none),
    L3.deX (PySem.W.findIn K (.ref (He.ga K "Rejected")) "__init__") (some (some (.ref (He.ma K (He.ga K "Rejected") "__init__")))),
    L3.deX (PySem.W.typeIn K (.ref (He.ma K (He.ga K "Rejected") "__init__"))) (some (.type "function")),
    L3.deX (PySem.W.nsIn K mainGlobals "NoPair") (some (some (.ref (He.ga K "NoPair")))),
    PySem.W.keepIn K (.ref (He.ga K "NoPair")),
    PySem.W.excInitIn K (He.ga K "NoPair") [.type "LookupError", .type "Exception", .type "BaseException", .type "object"] "LookupError.__new__",
    PySem.W.excOver K (He.ga K "NoPair") [.type "LookupError", .type "Exception", .type "BaseException", .type "object"],
    PySem.W.hasDictIn K (He.ga K "NoPair"),
    L3.deX (PySem.W.findIn K (.ref (He.ga K "NoPair")) "__setattr__") (some (some (.builtin "object.__setattr__"))),
    L3.deX (PySem.W.findIn K (.ref (He.ga K "NoPair")) "__getattribute__") (some (some (.builtin "BaseException.__getattribute__"))),
    L3.deX (PySem.W.findIn K (.ref (He.ga K "NoPair")) "__getattr__") (some none),
    L3.deX (PySem.W.subIn K (.ref (He.ga K "NoPair")) (.type "BaseException")) (some true),
    L3.deX (PySem.W.typeIn K (.ref (He.ga K "NoPair"))) (some (.type "type")),
    L3.deX (PySem.W.findIn K (.ref (He.ga K "NoPair")) "index") (some none),
    L3.deX (PySem.W.findIn K (.ref (He.ga K "NoPair")) "__init__") (some (some (.ref (He.ma K (He.ga K "NoPair") "__init__")))),
    L3.deX (PySem.W.typeIn K (.ref (He.ma K (He.ga K "NoPair") "__init__"))) (some (.type "function")),
    L3.deX (PySem.W.nsIn K mainGlobals "NoVersion") (some (some (.ref (He.ga K "NoVersion")))),
    PySem.W.keepIn K (.ref (He.ga K "NoVersion")),
    PySem.W.excInitIn K (He.ga K "NoVersion") [.type "LookupError", .type "Exception", .type "BaseException", .type "object"] "LookupError.__new__",
    PySem.W.excOver K (He.ga K "NoVersion") [.type "LookupError", .type "Exception", .type "BaseException", .type "object"],
    PySem.W.hasDictIn K (He.ga K "NoVersion"),
    L3.deX (PySem.W.findIn K (.ref (He.ga K "NoVersion")) "__setattr__") (some (some (.builtin "object.__setattr__"))),
    L3.deX (PySem.W.findIn K (.ref (He.ga K "NoVersion")) "__getattribute__") (some (some (.builtin "BaseException.__getattribute__"))),
    L3.deX (PySem.W.findIn K (.ref (He.ga K "NoVersion")) "__getattr__") (some none),
    L3.deX (PySem.W.subIn K (.ref (He.ga K "NoVersion")) (.type "BaseException")) (some true),
    L3.deX (PySem.W.typeIn K (.ref (He.ga K "NoVersion"))) (some (.type "type")),
    L3.deX (PySem.W.findIn K (.ref (He.ga K "NoVersion")) "version") (some none),
    L3.deX (PySem.W.findIn K (.ref (He.ga K "NoVersion")) "__init__") (some (some (.ref (He.ma K (He.ga K "NoVersion") "__init__")))),
    L3.deX (PySem.W.typeIn K (.ref (He.ma K (He.ga K "NoVersion") "__init__"))) (some (.type "function")),
    L3.deX (PySem.W.nsIn K mainGlobals "Bench") (some (some (.ref (He.ga K "Bench")))),
    L3.deX (PySem.W.nsIn K mainGlobals "RightBench") (some (some (.ref (He.ga K "RightBench")))),
    ([(He.ga K "BadText"), (He.ga K "BadScheme"), (He.ga K "BadRule"), (He.ga K "BadWord"), (He.ga K "BadLength"), (He.ga K "NotRight"), (He.ga K "NotLeft"), (He.ga K "Faulty"), (He.ga K "Busy"), (He.ga K "TooManyEdits"), (He.ga K "NothingToUndo"), (He.ga K "NothingToRedo"), (He.ga K "BadEdits"), (He.ga K "BadEdit"), (He.ga K "Rejected"), (He.ga K "TooFar"), (He.ga K "TooGreat"), (He.ga K "NoPair"), (He.ga K "NoVersion"), (He.ga K "PairError")].all fun D => L3.deX (PySem.W.findIn K (.ref D) "__getattribute__") (some (some (.builtin "BaseException.__getattribute__"))) && (L3.deX (PySem.W.findIn K (.ref D) "__getattr__") (some none) && (L3.deX (PySem.W.subIn K (.ref D) (.type "BaseException")) (some true) && (PySem.W.hasDictIn K D && (L3.deX (PySem.W.findIn K (.ref D) "__class__") (some (some (.builtin "object.__class__"))) && L3.deX (PySem.W.mroIn K D (.type "object")) (some true)))))),
    L3.deX (PySem.W.specialIn K (.builtin "object.__class__") "__get__") (some (some (.builtin "getset_descriptor.__get__"))),
    L3.deX (PySem.W.takesIn K (.builtin "object.__class__")) (some true),
    ([(He.ga K "BadText"), (He.ga K "BadScheme"), (He.ga K "BadRule"), (He.ga K "BadWord"), (He.ga K "BadLength"), (He.ga K "NotRight"), (He.ga K "NotLeft"), (He.ga K "Faulty"), (He.ga K "Busy"), (He.ga K "TooManyEdits"), (He.ga K "NothingToUndo"), (He.ga K "NothingToRedo"), (He.ga K "BadEdits"), (He.ga K "BadEdit"), (He.ga K "Rejected"), (He.ga K "TooFar"), (He.ga K "TooGreat"), (He.ga K "NoPair"), (He.ga K "NoVersion"), (He.ga K "PairError")].zipIdx.all fun a => [(He.ga K "BadText"), (He.ga K "BadScheme"), (He.ga K "BadRule"), (He.ga K "BadWord"), (He.ga K "BadLength"), (He.ga K "NotRight"), (He.ga K "NotLeft"), (He.ga K "Faulty"), (He.ga K "Busy"), (He.ga K "TooManyEdits"), (He.ga K "NothingToUndo"), (He.ga K "NothingToRedo"), (He.ga K "BadEdits"), (He.ga K "BadEdit"), (He.ga K "Rejected"), (He.ga K "TooFar"), (He.ga K "TooGreat"), (He.ga K "NoPair"), (He.ga K "NoVersion"), (He.ga K "PairError")].zipIdx.all fun b => decide (17 ≤ b.2) || L3.deX (PySem.W.kitOne K (.ref a.1) (.ref b.1)) (some (decide (a.2 = b.2)))),
    ([(He.ga K "BadText"), (He.ga K "BadScheme"), (He.ga K "BadRule"), (He.ga K "BadWord"), (He.ga K "BadLength"), (He.ga K "NotRight"), (He.ga K "NotLeft"), (He.ga K "Faulty"), (He.ga K "Busy"), (He.ga K "TooManyEdits"), (He.ga K "NothingToUndo"), (He.ga K "NothingToRedo"), (He.ga K "BadEdits"), (He.ga K "BadEdit"), (He.ga K "Rejected"), (He.ga K "TooFar"), (He.ga K "TooGreat"), (He.ga K "NoPair"), (He.ga K "NoVersion"), (He.ga K "PairError")].zipIdx.all fun a => L3.deX (PySem.W.kitOne K (.ref a.1) (.type "LookupError")) (some (decide (a.2 = 17 ∨ a.2 = 18))) && (L3.deX (PySem.W.kitOne K (.ref a.1) (.type "ValueError")) (some (!decide (a.2 = 17 ∨ a.2 = 18))) && [(He.ga K "BadText"), (He.ga K "BadScheme"), (He.ga K "BadRule"), (He.ga K "BadWord"), (He.ga K "BadLength"), (He.ga K "NotRight"), (He.ga K "NotLeft"), (He.ga K "Faulty"), (He.ga K "Busy"), (He.ga K "TooManyEdits"), (He.ga K "NothingToUndo"), (He.ga K "NothingToRedo"), (He.ga K "BadEdits"), (He.ga K "BadEdit"), (He.ga K "Rejected"), (He.ga K "TooFar"), (He.ga K "TooGreat"), (He.ga K "NoPair"), (He.ga K "NoVersion"), (He.ga K "PairError")].zipIdx.all fun b => (decide (b.2 ≠ 19) || L3.deX (PySem.W.kitOne K (.ref a.1) (.ref b.1)) (some (!decide (a.2 = 17 ∨ a.2 = 18)))) && (decide (¬ ((a.2 = 17 ∧ b.2 = 18) ∨ (a.2 = 18 ∧ b.2 = 17))) || L3.deX (PySem.W.kitOne K (.ref a.1) (.ref b.1)) (some false)))),
    PySem.W.readsIn K (He.ga K "Bench") (.type "type"),
    (match PySem.W.findCls K (.ref (He.ga K "Bench")) (.type "type") "MOST_EDITS" with | some (.val (.int j _)) => decide (j = 60) | _ => false),
    PySem.W.readsIn K (He.ga K "RightBench") (.type "type"),
    (match PySem.W.findCls K (.ref (He.ga K "RightBench")) (.type "type") "MOST_EDITS" with | some (.val (.int j _)) => decide (j = 60) | _ => false),
    L3.deX (PySem.W.nsIn K mainGlobals "abs") (some none),
    L3.deX (PySem.W.nsIn K mainGlobals "len") (some none),
    L3.deX (PySem.W.nsIn K mainGlobals "int") (some none),
    L3.deX (PySem.W.nsIn K mainGlobals "str") (some none),
    L3.deX (PySem.W.nsIn K mainGlobals "isinstance") (some none),
    L3.deX (PySem.W.nsIn K mainGlobals "range") (some none),
    L3.deX (PySem.W.nsIn K mainGlobals "LookupError") (some none),
    L3.deX (PySem.W.nsIn K mainGlobals "ValueError") (some none)]
def ts4 (K : PySem.W.Frag) : List Bool := [L3.deX (PySem.W.nsIn K mainGlobals "repr") (some none)]
def asL : List Addr := 3 :: List.range 1200
abbrev qv : Program := PySem.W.view R.prog [110]
def looseL : List Str := (R.prog.main.scope.names.map (·.1)).filter fun k => !(k == "law")
abbrev AT : Type := List Bool × List Bool × List Bool × List Bool × List Bool × List He.FnW
def oHk (K : PySem.W.Frag) : AT := (ts0 K, ts1 K, ts2 K, ts3 K, ts4 K, fnL.map fun d => He.fnW K d.at_)
def vHk : AT := (List.replicate 70 true, List.replicate 70 true, List.replicate 70 true, List.replicate 70 true, List.replicate 1 true, fnL.map L3.valX)
theorem run1 (w : World) (os : OsState) : (HeadRun.endF (HeadRun.stepQ (HeadRun.denQ HeadRun.tabQ) R.prog w) 20000 R.prog w os).map (fun s => (HeadRun.looksF R.prog (PySem.W.boot_heap (w).params) s.abs, HeadRun.seenQ qv looseL (importedModules R.prog.main.body) (fun s => PySem.W.xlAt qv [] s && PySem.W.recOk R.toRowW.records s) s.abs)) = some (true, PySem.W.openGood qv looseL) := by
  kernel_rfl
theorem run2_l (w : World) (os : OsState) : (HeadRun.endF (HeadRun.stepQ (HeadRun.denQ HeadRun.tabQ) R.prog w) 20000 R.prog w os).map (fun s => (ts4 (He.frG (HeadRun.getT s) asL), fnL.map fun d => He.fnW (He.frG (HeadRun.getT s) asL) d.at_)) = some ((List.replicate 1 true, fnL.map L3.valX)) := by
  kernel_rfl
theorem run2_1 (w : World) (os : OsState) : (HeadRun.endF (HeadRun.stepQ (HeadRun.denQ HeadRun.tabQ) R.prog w) 20000 R.prog w os).map (fun s => (ts2 (He.frG (HeadRun.getT s) asL), ts3 (He.frG (HeadRun.getT s) asL))) = some (List.replicate 70 true, List.replicate 70 true) := by
  kernel_rfl
theorem run2_0 (w : World) (os : OsState) : (HeadRun.endF (HeadRun.stepQ (HeadRun.denQ HeadRun.tabQ) R.prog w) 20000 R.prog w os).map (fun s => (ts0 (He.frG (HeadRun.getT s) asL), ts1 (He.frG (HeadRun.getT s) asL))) = some (List.replicate 70 true, List.replicate 70 true) := by
  kernel_rfl
theorem run2 (w : World) (os : OsState) : (HeadRun.endF (HeadRun.stepQ (HeadRun.denQ HeadRun.tabQ) R.prog w) 20000 R.prog w os).map (fun s => oHk (He.frG (HeadRun.getT s) asL)) = some vHk := L3.map_three (run2_0 w os) (L3.map_three (run2_1 w os) (run2_l w os))
theorem run (w : World) : HeadRun.RunEq R qv (L3.hookQ asL oHk vHk) (fun s => oHk (He.frG (HeadRun.getT s) asL)) 20000 looseL w := L3.run_of (run1 w) (run2 w)
open PySem.W in
set_option maxHeartbeats 0 in
theorem hold_of (hc : WalkO qv looseL (XL qv []) (L3.hookQ asL oHk vHk).says PySem.Challenge.rw_pairedaway_k00_errors_made_by_hand.row.toRowW (HeadRun.topDef R.prog 110) [] (fun f vs => PySem.call f vs)) : PySem.Challenge.rw_pairedaway_k00_errors_made_by_hand.Holds := by
  w_on; o_law
  refine HeadRun.head_any (r := R) (q := qv) (H := L3.hookQ asL oHk vHk) (ob := fun s => oHk (He.frG (HeadRun.getT s) asL)) (M := 20000) (loose := looseL) (kwd := []) (fun s => L3.hookQ_ob s) (by kernel_rfl) (fun s => by kernel_rfl) run (by rfl) (by rfl) (by rfl) (by rfl) (by first | assumption | decide +kernel) (by decide +kernel) ⟨rfl, rfl, rfl, rfl, rfl, by decide +kernel⟩ ?hw ?hc
  case hw => w_witness2
  case hc => exact hc
end head
end My
/-! L3: a heap-free reading of Python over HandS: data, what stands for them, growth of heaps -/
namespace L3
open PySem PySem.Spec PyProof.Rows L2
/-- data: what a value is, without addresses -/
inductive D where
  | non | bl (b : Bool) | int (i : Int) | str (s : Str) | ty (n : String) | obj (a : Addr)
  | lst (l : List D) | tup (l : List D) | dct (l : List (Key × D))
  /-- a dict that is locked: it never changes -/
  | fdc (l : List (Key × D))
/-- G' knows all that G knows -/
def Kn (G G' : Hp) : Prop := ∀ a o, G a = some o → G' a = some o
theorem Kn.refl (G : Hp) : Kn G G := fun _ _ h => h
theorem Kn.trans {A B C : Hp} (h : Kn A B) (k : Kn B C) : Kn A C := fun a o e => k a o (h a o e)
theorem Kn.back {A B : Hp} (h : Kn A B) {p : Addr} (e : B p = none) : A p = none := by
  cases q : A p with
  | none => rfl
  | some o => rw [h p o q] at e; cases e
theorem Kn.new {G : Hp} {p : Addr} {o : HO} (h : G p = none) : Kn G (upd G p o) := fun a u e => by
  rw [upd_ne (ne_of_none e h)]; exact e
theorem Kn.sqT {K : PySem.W.Frag} {G G' : Hp} {a : Addr} {xs : List V} (e : Kn G G') (h : SqT K G a xs) : SqT K G' a xs := by
  rcases h with (h | ⟨o, h⟩) | h
  · exact .inl (.inl (e _ _ h))
  · exact .inl (.inr ⟨o, e _ _ h⟩)
  · exact .inr h
mutual
/-- v stands for the datum in G -/
def Rp (K : PySem.W.Frag) (G : Hp) : D → V → Prop
  | .non, v => v = .non
  | .bl b, v => v = .bl b
  | .int i, v => v = .int i
  | .str s, v => v = .str s
  | .ty n, v => v = .ty n
  | .obj a, v => v = .ref a
  | .lst l, v => ∃ a xs, v = .ref a ∧ G a = some (.lst xs) ∧ RpA K G l xs
  | .tup l, v => ∃ a xs, v = .ref a ∧ SqT K G a xs ∧ RpA K G l xs
  | .dct l, v => ∃ a kvs, v = .ref a ∧ G a = some (.dK kvs) ∧ RpK K G l kvs
  | .fdc l, v => ∃ a o kvs, v = .ref a ∧ G a = some (.frz o (.dK kvs)) ∧ RpK K G l kvs
def RpA (K : PySem.W.Frag) (G : Hp) : List D → List V → Prop
  | [], xs => xs = []
  | d :: ds, xs => ∃ x r, xs = x :: r ∧ Rp K G d x ∧ RpA K G ds r
def RpK (K : PySem.W.Frag) (G : Hp) : List (Key × D) → List (Key × V) → Prop
  | [], xs => xs = []
  | p :: ds, xs => ∃ x r, xs = (p.1, x) :: r ∧ Rp K G p.2 x ∧ RpK K G ds r
end
section
variable {K : PySem.W.Frag} {G G' : Hp}
mutual
theorem Rp.mono (e : Kn G G') : ∀ {d : D} {v : V}, Rp K G d v → Rp K G' d v
  | .non, _, h | .bl _, _, h | .int _, _, h | .str _, _, h | .ty _, _, h | .obj _, _, h => by simpa only [Rp] using h
  | .lst l, v, h => by
    simp only [Rp] at h ⊢
    obtain ⟨a, xs, rfl, h1, h2⟩ := h
    exact ⟨a, xs, rfl, e _ _ h1, RpA.mono e h2⟩
  | .tup l, v, h => by
    simp only [Rp] at h ⊢
    obtain ⟨a, xs, rfl, h1, h2⟩ := h
    exact ⟨a, xs, rfl, e.sqT h1, RpA.mono e h2⟩
  | .dct l, v, h => by
    simp only [Rp] at h ⊢
    obtain ⟨a, xs, rfl, h1, h2⟩ := h
    exact ⟨a, xs, rfl, e _ _ h1, RpK.mono e h2⟩
  | .fdc l, v, h => by
    simp only [Rp] at h ⊢
    obtain ⟨a, o, xs, rfl, h1, h2⟩ := h
    exact ⟨a, o, xs, rfl, e _ _ h1, RpK.mono e h2⟩
theorem RpA.mono (e : Kn G G') : ∀ {ds : List D} {xs : List V}, RpA K G ds xs → RpA K G' ds xs
  | [], _, h => by simpa only [RpA] using h
  | d :: ds, xs, h => by
    simp only [RpA] at h ⊢
    obtain ⟨x, r, rfl, h1, h2⟩ := h
    exact ⟨x, r, rfl, Rp.mono e h1, RpA.mono e h2⟩
theorem RpK.mono (e : Kn G G') : ∀ {ds : List (Key × D)} {xs : List (Key × V)}, RpK K G ds xs → RpK K G' ds xs
  | [], _, h => by simpa only [RpK] using h
  | d :: ds, xs, h => by
    simp only [RpK] at h ⊢
    obtain ⟨x, r, rfl, h1, h2⟩ := h
    exact ⟨x, r, rfl, Rp.mono e h1, RpK.mono e h2⟩
end
theorem RpA.nil_iff {xs : List V} : RpA K G [] xs ↔ xs = [] := by simp only [RpA]
theorem RpA.cons_iff {d : D} {ds : List D} {xs : List V} : RpA K G (d :: ds) xs ↔ ∃ x r, xs = x :: r ∧ Rp K G d x ∧ RpA K G ds r := by simp only [RpA]
theorem RpA.len : ∀ {ds : List D} {xs : List V}, RpA K G ds xs → xs.length = ds.length
  | [], xs, h => by rw [RpA.nil_iff] at h; subst h; rfl
  | d :: ds, xs, h => by
    rw [RpA.cons_iff] at h
    obtain ⟨x, r, rfl, _, h2⟩ := h
    simp only [List.length_cons, RpA.len h2]
theorem RpA.append : ∀ {ds es : List D} {xs ys : List V}, RpA K G ds xs → RpA K G es ys → RpA K G (ds ++ es) (xs ++ ys)
  | [], _, xs, _, h, k => by rw [RpA.nil_iff] at h; subst h; exact k
  | d :: ds, es, xs, ys, h, k => by
    rw [RpA.cons_iff] at h
    obtain ⟨x, r, rfl, h1, h2⟩ := h
    exact RpA.cons_iff.mpr ⟨x, r ++ ys, rfl, h1, RpA.append h2 k⟩
theorem RpA.one {d : D} {x : V} (h : Rp K G d x) : RpA K G [d] [x] := RpA.cons_iff.mpr ⟨x, [], rfl, h, RpA.nil_iff.mpr rfl⟩
theorem RpA.cons {d : D} {ds : List D} {x : V} {xs : List V} (h : Rp K G d x) (k : RpA K G ds xs) : RpA K G (d :: ds) (x :: xs) := RpA.cons_iff.mpr ⟨x, xs, rfl, h, k⟩
theorem RpA.get : ∀ {ds : List D} {xs : List V} {i : Nat} {x : V}, RpA K G ds xs → xs[i]? = some x → ∃ d, ds[i]? = some d ∧ Rp K G d x
  | [], xs, i, x, h, e => by rw [RpA.nil_iff] at h; subst h; simp at e
  | d :: ds, xs, 0, x, h, e => by
    rw [RpA.cons_iff] at h
    obtain ⟨y, r, rfl, h1, h2⟩ := h
    cases e; exact ⟨d, rfl, h1⟩
  | d :: ds, xs, i + 1, x, h, e => by
    rw [RpA.cons_iff] at h
    obtain ⟨y, r, rfl, h1, h2⟩ := h
    exact RpA.get (i := i) h2 e
theorem RpA.getD : ∀ {ds : List D} {xs : List V} {i : Nat} {d : D}, RpA K G ds xs → ds[i]? = some d → ∃ x, xs[i]? = some x ∧ Rp K G d x
  | [], xs, i, x, h, e => by simp at e
  | d :: ds, xs, 0, x, h, e => by
    rw [RpA.cons_iff] at h
    obtain ⟨y, r, rfl, h1, h2⟩ := h
    cases e; exact ⟨y, rfl, h1⟩
  | d :: ds, xs, i + 1, x, h, e => by
    rw [RpA.cons_iff] at h
    obtain ⟨y, r, rfl, h1, h2⟩ := h
    exact RpA.getD (i := i) h2 e
theorem RpA.set {d : D} {x : V} (q : Rp K G d x) : ∀ {ds : List D} {xs : List V} (i : Nat), RpA K G ds xs → RpA K G (ds.set i d) (xs.set i x)
  | [], xs, i, h => by rw [RpA.nil_iff] at h; subst h; exact RpA.nil_iff.mpr rfl
  | e :: ds, xs, 0, h => by
    rw [RpA.cons_iff] at h
    obtain ⟨y, r, rfl, h1, h2⟩ := h
    exact RpA.cons q h2
  | e :: ds, xs, i + 1, h => by
    rw [RpA.cons_iff] at h
    obtain ⟨y, r, rfl, h1, h2⟩ := h
    exact RpA.cons h1 (RpA.set q i h2)
theorem RpA.take : ∀ {ds : List D} {xs : List V} (n : Nat), RpA K G ds xs → RpA K G (ds.take n) (xs.take n)
  | _, _, 0, _ => RpA.nil_iff.mpr rfl
  | [], xs, n + 1, h => by rw [RpA.nil_iff] at h; subst h; exact RpA.nil_iff.mpr rfl
  | d :: ds, xs, n + 1, h => by
    rw [RpA.cons_iff] at h
    obtain ⟨y, r, rfl, h1, h2⟩ := h
    exact RpA.cons h1 (RpA.take n h2)
theorem RpA.drop : ∀ {ds : List D} {xs : List V} (n : Nat), RpA K G ds xs → RpA K G (ds.drop n) (xs.drop n)
  | _, _, 0, h => h
  | [], xs, n + 1, h => by rw [RpA.nil_iff] at h; subst h; exact RpA.nil_iff.mpr rfl
  | d :: ds, xs, n + 1, h => by
    rw [RpA.cons_iff] at h
    obtain ⟨y, r, rfl, h1, h2⟩ := h
    exact RpA.drop n h2
theorem RpA.reverse : ∀ {ds : List D} {xs : List V}, RpA K G ds xs → RpA K G ds.reverse xs.reverse
  | [], xs, h => by rw [RpA.nil_iff] at h; subst h; exact RpA.nil_iff.mpr rfl
  | d :: ds, xs, h => by
    rw [RpA.cons_iff] at h
    obtain ⟨y, r, rfl, h1, h2⟩ := h
    rw [List.reverse_cons, List.reverse_cons]
    exact (RpA.reverse h2).append (RpA.one h1)
theorem RpA.ints : ∀ {ns : List Int} {xs : List V}, RpA K G (ns.map D.int) xs → xs = ns.map V.int
  | [], xs, h => RpA.nil_iff.mp h
  | n :: ns, xs, h => by
    rw [List.map_cons, RpA.cons_iff] at h
    obtain ⟨x, r, rfl, h1, h2⟩ := h
    simp only [Rp] at h1
    rw [h1, RpA.ints h2]; rfl
theorem RpA.strs : ∀ {ns : List Str} {xs : List V}, RpA K G (ns.map D.str) xs → xs = ns.map V.str
  | [], xs, h => RpA.nil_iff.mp h
  | n :: ns, xs, h => by
    rw [List.map_cons, RpA.cons_iff] at h
    obtain ⟨x, r, rfl, h1, h2⟩ := h
    simp only [Rp] at h1
    rw [h1, RpA.strs h2]; rfl
end
/-- the heaps go on: G the known part (data), H the whole; what foot names may change; what foot' names more is new -/
structure Grow (foot foot' : Addr → Prop) (G H G' H' : Hp) : Prop where
  gg : Kn G G'
  gh : Kn G' H'
  hh : ∀ a o, ¬ foot a → H a = some o → H' a = some o
  th : ∀ a, H a ≠ none → H' a ≠ none
  fr : ∀ a, G a = none → G' a ≠ none → H a = none
  ff : ∀ a, foot' a → foot a ∨ H a = none
abbrev noFoot : Addr → Prop := fun _ => False
section
variable {foot f1 f2 : Addr → Prop} {G H G1 H1 G2 H2 : Hp}
theorem Grow.refl (h : Kn G H) : Grow foot foot G H G H := ⟨Kn.refl G, h, fun _ _ _ e => e, fun _ e => e, fun a e n => absurd e n, fun _ => .inl⟩
theorem Grow.trans (h : Grow foot f1 G H G1 H1) (k : Grow f1 f2 G1 H1 G2 H2) : Grow foot f2 G H G2 H2 := by
  refine ⟨h.gg.trans k.gg, k.gh, fun a o n e => k.hh a o (fun z => ?_) (h.hh a o n e), fun a e => k.th a (h.th a e), fun a e n => ?_, fun a e => ?_⟩
  · rcases h.ff a z with z | z
    · exact n z
    · rw [z] at e; cases e
  · by_cases q : G1 a = none
    · have z := k.fr a q n
      by_cases w : H a = none
      · exact w
      · exact absurd z (h.th a w)
    · exact h.fr a e q
  · rcases k.ff a e with z | z
    · exact h.ff a z
    · by_cases w : H a = none
      · exact .inr w
      · exact absurd z (h.th a w)
theorem Grow.nf {a : Addr} {o : HO} (h : Grow foot f1 G H G1 H1) (n : ¬ foot a) (e : H a = some o) : ¬ f1 a := fun z => by
  rcases h.ff a z with z | z
  · exact n z
  · rw [e] at z; cases z
theorem Grow.weak (h : Grow noFoot noFoot G H G1 H1) : Grow foot foot G H G1 H1 := ⟨h.gg, h.gh, fun a o _ e => h.hh a o (fun z => z) e, h.th, h.fr, fun _ => .inl⟩
/-- a new datum object -/
theorem Grow.new {p : Addr} {o : HO} (h : Kn G H) (hp : H p = none) : Grow foot foot G H (upd G p o) (upd H p o) := by
  have gp : G p = none := h.back hp
  refine ⟨Kn.new gp, fun a u e => ?_, fun a u _ e => ?_, fun a e => ?_, fun a e n => ?_, fun _ => .inl⟩
  · by_cases q : a = p
    · subst q; rw [upd_same] at e ⊢; exact e
    · rw [upd_ne q] at e ⊢; exact h a u e
  · rw [upd_ne (ne_of_none e hp)]; exact e
  · by_cases q : a = p
    · subst q; rw [upd_same]; simp
    · rw [upd_ne q]; exact e
  · by_cases q : a = p
    · subst q; exact hp
    · rw [upd_ne q] at n; exact absurd e n
/-- a new object that is not known as a datum -/
theorem Grow.own {p : Addr} {o : HO} (h : Kn G H) (hp : H p = none) : Grow foot foot G H G (upd H p o) := by
  refine ⟨Kn.refl G, fun a u e => ?_, fun a u _ e => ?_, fun a e => ?_, fun a e n => absurd e n, fun _ => .inl⟩
  · rw [upd_ne (ne_of_none (h a u e) hp)]; exact h a u e
  · rw [upd_ne (ne_of_none e hp)]; exact e
  · by_cases q : a = p
    · subst q; rw [upd_same]; simp
    · rw [upd_ne q]; exact e
end
end L3
namespace L3
open PySem PySem.Spec PyProof.Rows L2
/-! ### the static side of a context -/
/-- what is wished of an exception; the heaps that the wish knows; the exception that is handled: its place, its class, its dict -/
structure XS where
  wx : WX
  lnk : Hp → (Addr → Prop) → Hp → Hp → Prop
  hot : Option (Addr × Value × Option Addr)
/-- no exception is wished for -/
def XS.no : XS := ⟨fun _ _ _ _ => False, fun _ _ _ _ => True, none⟩
/-- the names, the wish, whether the frame is a def's own -/
structure NX where
  nm : List (Str × NameKind)
  xs : XS
  fr : Bool
structure SC where
  P : Program
  w : World
  K : PySem.W.Frag
  mg : Str → Option Value
  base : Heap
  N : List Str
  nx : NX
  k : Nat
abbrev SC.nm (C : SC) : List (Str × NameKind) := C.nx.nm
abbrev SC.xs (C : SC) : XS := C.nx.xs
/-- no exception is handled here -/
class Cold (C : SC) : Prop where
  h : C.nx.xs.hot = none
instance {P w K mg base N nm k wx lnk fr} : Cold ⟨P, w, K, mg, base, N, ⟨nm, ⟨wx, lnk, none⟩, fr⟩, k⟩ := ⟨rfl⟩
instance {P w K mg base N nm k fr} : Cold ⟨P, w, K, mg, base, N, ⟨nm, XS.no, fr⟩, k⟩ := ⟨rfl⟩
/-- a def's own context, where nothing is raised -/
abbrev sc0 (P : Program) (w : World) (K : PySem.W.Frag) (mg : Str → Option Value) (base : Heap) (N : List Str) (nm : List (Str × NameKind)) (k : Nat) : SC := ⟨P, w, K, mg, base, N, ⟨nm, XS.no, true⟩, k⟩
/-- nothing is raised here -/
class NoXs (C : SC) : Prop where
  h : C.nx.xs = XS.no
instance {P w K mg base N nm k fr} : NoXs ⟨P, w, K, mg, base, N, ⟨nm, XS.no, fr⟩, k⟩ := ⟨rfl⟩
def stat (X : Cx) (k : Nat) (nx : NX) : SC := ⟨X.prog, X.w, X.K, X.mg, X.base, X.N, nx, k⟩
inductive VisK : NameKind → Prop
  | l : VisK .local | c : VisK .cell | f : VisK .free
inductive LocK : NameKind → Prop
  | l : LocK .local | c : LocK .cell
/-- nm tells the kinds of names (a free one may have become a cell's) -/
def NmOk (nm names : List (Str × NameKind)) : Prop := ∀ x k, (x, k) ∈ nm → names.lookup x = some k ∨ (k = .free ∧ names.lookup x = some .cell)
/-- an except suite -/
def HotIn (X : Cx) (a : Addr) (cls : Value) (d : Option Addr) : Prop := ∃ (X' : Cx) (oe : Obj) (pn : List (Addr × Obj)), X = X'.suite a ((a, oe) :: pn) ∧ Zc cls d oe ∧ ∃ vs, oe.data = .fields vs
structure HasK (X : Cx) (k : Nat) (nx : NX) : Prop where
  calm : nx.xs.hot = none → X.calm = true
  room : nx.xs.hot = none → Room k X.A
  gd : X.A.guards = some []
  un : X.A.units + 64 < cLine
  nd : X.N.Nodup
  pass : PassesOwn (model X.prog X.w) X.A X.env X.xe
  tk : Takes X nx.xs.wx
  fr : nx.fr = true → X.stack = X.env :: X.outer ∧ X.env.frame = some X.env.locals
  hot : ∀ a cls d, nx.xs.hot = some (a, cls, d) → HotIn X a cls d
def NmAll (nm : List (Str × NameKind)) (X : Cx) : Prop := NmOk nm X.env.scope.names ∧ ∀ x k, (x, k) ∈ nm → LocK k → X.fn x = true ∨ X.env.scope.names.lookup x = some .local
def Has (C : SC) (X : Cx) : Prop := ∃ k nx, C = stat X k nx ∧ NmAll nx.nm X ∧ HasK X k nx
theorem takes_no {X : Cx} : Takes X XS.no.wx := fun _ _ ⟨_, _, _, _, _, _, _, _, _, _, _, _, _, _, _, _, w⟩ => w.elim
theorem Has.hu {X : Cx} {k : Nat} {nx : NX} (h : HasK X k nx) : X.A.units + 64 < cLine := h.un
/-! ### canonical readings -/
def rE (C : SC) (e : Expr) : TE := fun σ H Q => ∀ X pins s, Has C X → Inv X pins σ H s → wpAny (model X.prog X.w) X.A (eval e X.env) (EP X pins σ Q) X.xe s
def rT (C : SC) (e : Expr) : TT := fun σ H Q => ∀ X pins s, Has C X → Inv X pins σ H s → wpAny (model X.prog X.w) X.A (isTrue e X.env (eval e X.env)) (TP X pins σ Q) X.xe s
def rW (C : SC) (e : Expr) : TT := fun σ H Q => ∀ X pins s whole, Has C X → Inv X pins σ H s → wpAny (model X.prog X.w) X.A (isTrue e X.env whole) (TP X pins σ Q) X.xe s
def rA (C : SC) (es : List Expr) : TA := fun σ H Q => ∀ X pos pins s, Has C X → Inv X pins σ H s → wpAny (model X.prog X.w) X.A (spliced (backTo pos (starEach es X.env))) (AP X pins σ Q) X.xe s
def rS (C : SC) (st : Stmt) : TS := fun D σ H => ∀ X pins s, Has C X → Inv X pins σ H s → wpAny (model X.prog X.w) X.A (exec st X.env) (SP X pins D) X.xe s
def rSs (C : SC) (st : List Stmt) : TS := fun D σ H => ∀ X pins s, Has C X → Inv X pins σ H s → wpAny (model X.prog X.w) X.A (execs st X.env) (SP X pins D) X.xe s
section
variable {C : SC} {X : Cx}
theorem pe_of (h : Has C X) (e : Expr) : PE X e (rE C e) := ⟨fun pins s σ H Q I q => q X pins s h I⟩
theorem pt_of (h : Has C X) (e : Expr) : PT X e (rT C e) := ⟨fun pins s σ H Q I q => q X pins s h I⟩
theorem pw_of (h : Has C X) (e : Expr) : PW X e (rW C e) := ⟨fun wh pins s σ H Q I q => q X pins s wh h I⟩
theorem pa_of (h : Has C X) (es : List Expr) : PA X es (rA C es) := ⟨fun pos pins s σ H Q I q => q X pos pins s h I⟩
theorem ps_of (h : Has C X) (st : Stmt) : PS X st (rS C st) := ⟨fun pins s σ H D I q => q X pins s h I⟩
theorem pss_of (h : Has C X) (st : List Stmt) : PSs X st (rSs C st) := ⟨fun pins s σ H D I q => q X pins s h I⟩
end
/-! ### the state beside the data -/
structure Amb where
  U : Type
  foot : U → Addr → Prop
  st : U → Hp → Hp → Prop
  there : ∀ u G H, st u G H → ∀ a, foot u a → H a ≠ none
  stay : ∀ u G H G' H', st u G H → Kn G G' → (∀ a o, foot u a → H a = some o → H' a = some o) → (∀ a, foot u a → G a = none → G' a = none) → st u G' H'
theorem Amb.grow (A : Amb) {u : A.U} {G H G' H' : Hp} (h : A.st u G H) (g : Grow noFoot noFoot G H G' H') : A.st u G' H' :=
  A.stay u G H G' H' h g.gg (fun a o _ e => g.hh a o (fun z => z) e) fun a f n => by
    cases q : G' a with
    | none => rfl
    | some o => exact absurd (g.fr a n (by rw [q]; simp)) (A.there u G H h a f)
/-- no state -/
def A0 : Amb := ⟨Unit, fun _ => noFoot, fun _ _ _ => True, fun _ _ _ _ _ f => f.elim, fun _ _ _ _ _ _ _ _ _ => trivial⟩
/-- where a run began: what was known, what could be changed -/
structure Beg where
  G : Hp
  foot : Addr → Prop
/-- what an object of one's own is known to be -/
structure OwnR where
  rep : Hp → Addr → HO → Prop
  mono : ∀ {G G' : Hp} {a : Addr} {o : HO}, Kn G G' → rep G a o → rep G' a o
/-- what stands in a slot -/
inductive Sl where
  | un | dat (d : D) | own (l : List D) | ownD (l : List (Key × D)) | ownX (R : OwnR) | knX (R : OwnR)
def Sl.isOwn : Sl → Prop
  | .own _ => True
  | .ownD _ => True
  | .ownX _ => True
  | _ => False
def SlOk (K : PySem.W.Frag) (foot : Addr → Prop) (H0 G H : Hp) (a : Addr) : Sl → Option (Option V) → Prop
  | .un, _ => True
  | .dat d, o => ∃ v, o = some (some v) ∧ Rp K G d v
  | .own l, o => o = some (some (.ref a)) ∧ G a = none ∧ H0 a = none ∧ ¬ foot a ∧ ∃ xs, H a = some (.lst xs) ∧ RpA K G l xs
  | .ownD l, o => o = some (some (.ref a)) ∧ G a = none ∧ H0 a = none ∧ ¬ foot a ∧ ∃ xs, H a = some (.dK xs) ∧ RpK K G l xs
  | .ownX R, o => o = some (some (.ref a)) ∧ G a = none ∧ H0 a = none ∧ ¬ foot a ∧ ∃ ob, H a = some ob ∧ R.rep G a ob
  | .knX R, o => ∃ q ob, o = some (some (.ref q)) ∧ G q = some ob ∧ R.rep G q ob
abbrev NE := List (Str × Sl)
structure Env (C : SC) (A : Amb) (G0 : Beg) (H0 : Hp) (u : A.U) (G H : Hp) (E : NE) (σ : L2.St) : Prop where
  gr : Grow G0.foot (A.foot u) G0.G H0 G H
  ln : ∀ ft G1 H1, Grow G0.foot ft G0.G H0 G1 H1 → C.nx.xs.lnk H0 ft G1 H1
  st : A.st u G H
  nd : (E.map (·.1)).Nodup
  ent : ∃ α : Str → Addr, (∀ x s, (x, s) ∈ E → ∃ i : Nat, C.N[i]? = some x ∧ SlOk C.K (A.foot u) H0 G H (α x) s σ[i]?) ∧
    ∀ x y s t, (x, s) ∈ E → (y, t) ∈ E → s.isOwn → t.isOwn → α x = α y → x = y
theorem SlOk.go {K : PySem.W.Frag} {foot foot' : Addr → Prop} {H0 G H G' H' : Hp} {a : Addr} {s : Sl} {o : Option (Option V)} (h : SlOk K foot H0 G H a s o) (g : Grow foot foot' G H G' H') : SlOk K foot' H0 G' H' a s o := by
  have key : ∀ {ob : HO}, G a = none → ¬ foot a → H a = some ob → G' a = none ∧ H' a = some ob ∧ ¬ foot' a := fun {ob} h1 h2 h3 => by
    refine ⟨?_, g.hh a _ h2 h3, fun z => ?_⟩
    · cases q : G' a with
      | none => rfl
      | some o =>
        have z := g.fr a h1 (by rw [q]; simp)
        rw [h3] at z; cases z
    · rcases g.ff a z with z | z
      · exact h2 z
      · rw [h3] at z; cases z
  cases s with
  | un => trivial
  | dat d => obtain ⟨v, e, r⟩ := h; exact ⟨v, e, r.mono g.gg⟩
  | own l => obtain ⟨e, h1, h2, h3, xs, h4, h5⟩ := h; obtain ⟨k1, k2, k3⟩ := key h1 h3 h4; exact ⟨e, k1, h2, k3, xs, k2, h5.mono g.gg⟩
  | ownD l => obtain ⟨e, h1, h2, h3, xs, h4, h5⟩ := h; obtain ⟨k1, k2, k3⟩ := key h1 h3 h4; exact ⟨e, k1, h2, k3, xs, k2, h5.mono g.gg⟩
  | ownX R => obtain ⟨e, h1, h2, h3, xs, h4, h5⟩ := h; obtain ⟨k1, k2, k3⟩ := key h1 h3 h4; exact ⟨e, k1, h2, k3, xs, k2, R.mono g.gg h5⟩
  | knX R => obtain ⟨q, ob, e, h1, h2⟩ := h; exact ⟨q, ob, e, g.gg _ _ h1, R.mono g.gg h2⟩
section
variable {C : SC} {A : Amb} {G0 : Beg} {H0 G H G' H' : Hp} {u u' : A.U} {E : NE} {σ : L2.St}
theorem Env.go (h : Env C A G0 H0 u G H E σ) (g : Grow (A.foot u) (A.foot u') G H G' H') (s : A.st u' G' H') : Env C A G0 H0 u' G' H' E σ := by
  obtain ⟨α, h1, h2⟩ := h.ent
  exact ⟨h.gr.trans g, h.ln, s, h.nd, α, fun x s m => let ⟨i, e, q⟩ := h1 x s m; ⟨i, e, q.go g⟩, h2⟩
theorem Env.kn (h : Env C A G0 H0 u G H E σ) : Kn G H := h.gr.gh
theorem Env.dat (h : Env C A G0 H0 u G H E σ) {x : Str} {d : D} (m : (x, Sl.dat d) ∈ E) : ∃ (i : Nat) (v : V), C.N[i]? = some x ∧ σ[i]? = some (some v) ∧ Rp C.K G d v := by
  obtain ⟨α, h1, _⟩ := h.ent
  obtain ⟨i, e, v, q, r⟩ := h1 x _ m
  exact ⟨i, v, e, q, r⟩
end
section
variable {C : SC} {A : Amb} {G0 : Beg} {H0 G1 H1 G H : Hp} {u u1 : A.U} {E : NE} {σ : L2.St}
theorem Grow.up {f0 f1 f : Addr → Prop} {G0 H0 : Hp} (g : Grow f0 f1 G0 H0 G1 H1) (h : Grow f0 f G0 H0 G H) (k : Kn G1 G) : Grow f0 f G1 H0 G H :=
  ⟨k, h.gh, h.hh, h.th, fun a e n => h.fr a (g.gg.back e) n, h.ff⟩
theorem Grow.down {f0 f1 f : Addr → Prop} {G0 H0 : Hp} (g : Grow f0 f1 G0 H0 G1 H1) (h : Grow f0 f G1 H0 G H) : Grow f0 f G0 H0 G H :=
  ⟨g.gg.trans h.gg, h.gh, h.hh, h.th, fun a e n => by
    by_cases q : G1 a = none
    · exact h.fr a q n
    · exact g.fr a e q, h.ff⟩
abbrev Beg.at (A : Amb) (u : A.U) (G : Hp) : Beg := ⟨G, A.foot u⟩
/-- the wish stands from here on -/
def Lnk (C : SC) (_A : Amb) (G0 : Beg) (H0 : Hp) : Prop := ∀ ft G1 H1, Grow G0.foot ft G0.G H0 G1 H1 → C.nx.xs.lnk H0 ft G1 H1
theorem Lnk.up {f1 : Addr → Prop} (g : Grow G0.foot f1 G0.G H0 G1 H1) (l : ∀ ft G1 H1, Grow G0.foot ft G0.G H0 G1 H1 → C.nx.xs.lnk H0 ft G1 H1) : ∀ ft G2 H2, Grow G0.foot ft G1 H0 G2 H2 → C.nx.xs.lnk H0 ft G2 H2 := fun u1 G2 H2 k => l u1 G2 H2 (g.down k)
theorem Lnk.no (h : C.nx.xs = XS.no) : ∀ ft G1 H1, Grow G0.foot ft G0.G H0 G1 H1 → C.nx.xs.lnk H0 ft G1 H1 := fun _ _ _ _ => by rw [h]; trivial
theorem Env.up {f1 : Addr → Prop} (g : Grow G0.foot f1 G0.G H0 G1 H1) (h : Env C A G0 H0 u G H E σ) (k : Kn G1 G) : Env C A ⟨G1, G0.foot⟩ H0 u G H E σ := ⟨g.up h.gr k, Lnk.up (G0 := G0) g h.ln, h.st, h.nd, h.ent⟩
theorem Env.down {f1 : Addr → Prop} (g : Grow G0.foot f1 G0.G H0 G1 H1) (l : Lnk C A G0 H0) (h : Env C A ⟨G1, G0.foot⟩ H0 u G H E σ) : Env C A G0 H0 u G H E σ := ⟨g.down h.gr, l, h.st, h.nd, h.ent⟩
end
/-! ### the judgements -/
def EvK (C : SC) (A : Amb) (e : Expr) (E : NE) (u : A.U) (Φ : D → A.U → Prop) : Prop :=
  ∀ G0 H0 G H σ, Env C A G0 H0 u G H E σ → ∀ Q : VK, (∀ d u' v G' H', Φ d u' → Grow (A.foot u) (A.foot u') G H G' H' → A.st u' G' H' → Rp C.K G' d v → Q v H') → rE C e σ H Q
def EvT (C : SC) (A : Amb) (e : Expr) (E : NE) (u : A.U) (Φ : Bool → A.U → Prop) : Prop :=
  ∀ G0 H0 G H σ, Env C A G0 H0 u G H E σ → ∀ Q : Bool → Hp → Prop, (∀ b u' G' H', Φ b u' → Grow (A.foot u) (A.foot u') G H G' H' → A.st u' G' H' → Q b H') → rT C e σ H Q
def EvW (C : SC) (A : Amb) (e : Expr) (E : NE) (u : A.U) (Φ : Bool → A.U → Prop) : Prop :=
  ∀ G0 H0 G H σ, Env C A G0 H0 u G H E σ → ∀ Q : Bool → Hp → Prop, (∀ b u' G' H', Φ b u' → Grow (A.foot u) (A.foot u') G H G' H' → A.st u' G' H' → Q b H') → rW C e σ H Q
def EvA (C : SC) (A : Amb) (es : List Expr) (E : NE) (u : A.U) (Φ : List D → A.U → Prop) : Prop :=
  ∀ G0 H0 G H σ, Env C A G0 H0 u G H E σ → ∀ Q : List V → Hp → Prop, (∀ ds u' vs G' H', Φ ds u' → Grow (A.foot u) (A.foot u') G H G' H' → A.st u' G' H' → RpA C.K G' ds vs → Q vs H') → rA C es σ H Q
/-- e makes a new list (not yet known as a datum) -/
def EvN (C : SC) (A : Amb) (e : Expr) (E : NE) (u : A.U) (Φ : List D → A.U → Prop) : Prop :=
  ∀ G0 H0 G H σ, Env C A G0 H0 u G H E σ → ∀ Q : VK, (∀ ds u' p xs G' H', Φ ds u' → Grow (A.foot u) (A.foot u') G H G' H' → A.st u' G' H' → H p = none → G' p = none → ¬ A.foot u' p → H' p = some (.lst xs) → RpA C.K G' ds xs → Q (.ref p) H') → rE C e σ H Q
structure Post (A : Amb) where
  nx : NE → A.U → Prop
  rt : D → A.U → Prop
  bk : NE → A.U → Prop := fun _ _ => False
  ct : NE → A.U → Prop := fun _ _ => False
structure Sat (C : SC) (A : Amb) (G0 : Beg) (H0 : Hp) (P : Post A) (Ds : Ends) : Prop where
  nx : ∀ E u G H σ, P.nx E u → Env C A G0 H0 u G H E σ → Ds.nx σ H
  bk : ∀ E u G H σ, P.bk E u → Env C A G0 H0 u G H E σ → Ds.bk σ H
  ct : ∀ E u G H σ, P.ct E u → Env C A G0 H0 u G H E σ → Ds.ct σ H
  rt : ∀ d u v G H, P.rt d u → Grow G0.foot (A.foot u) G0.G H0 G H → A.st u G H → Rp C.K G d v → Ds.rt v H
theorem Sat.up {C : SC} {A : Amb} {G0 : Beg} {H0 G1 H1 : Hp} {P : Post A} {Ds : Ends} {f1 : Addr → Prop} (g : Grow G0.foot f1 G0.G H0 G1 H1) (l : Lnk C A G0 H0) (S : Sat C A G0 H0 P Ds) : Sat C A ⟨G1, G0.foot⟩ H0 P Ds :=
  ⟨fun E u G H σ p he => S.nx E u G H σ p (he.down g l), fun E u G H σ p he => S.bk E u G H σ p (he.down g l), fun E u G H σ p he => S.ct E u G H σ p (he.down g l), fun d u v G H p h => S.rt d u v G H p (g.down h)⟩
def StK (C : SC) (A : Amb) (st : Stmt) (E : NE) (u : A.U) (P : Post A) : Prop :=
  ∀ G0 H0 G H σ Ds, Env C A G0 H0 u G H E σ → Sat C A G0 H0 P Ds → rS C st Ds σ H
def RunK (C : SC) (A : Amb) (sts : List Stmt) (E : NE) (u : A.U) (P : Post A) : Prop :=
  ∀ G0 H0 G H σ Ds, Env C A G0 H0 u G H E σ → Sat C A G0 H0 P Ds → rSs C sts Ds σ H
section
variable {C : SC} {A : Amb} {e : Expr} {E : NE} {u : A.U} {Φ : D → A.U → Prop} {Ψ : Bool → A.U → Prop}
theorem EvK.of (t : TE) (h : ∀ X, Has C X → PE X e t) (ht : ∀ G0 H0 G H σ, Env C A G0 H0 u G H E σ → ∀ Q : VK, (∀ d u' v G' H', Φ d u' → Grow (A.foot u) (A.foot u') G H G' H' → A.st u' G' H' → Rp C.K G' d v → Q v H') → t σ H Q) : EvK C A e E u Φ :=
  fun G0 H0 G H σ hE Q q X pins s hX I => (h X hX).run pins s σ H Q I (ht G0 H0 G H σ hE Q q)
theorem EvT.of (t : TT) (h : ∀ X, Has C X → PT X e t) (ht : ∀ G0 H0 G H σ, Env C A G0 H0 u G H E σ → ∀ Q : Bool → Hp → Prop, (∀ b u' G' H', Ψ b u' → Grow (A.foot u) (A.foot u') G H G' H' → A.st u' G' H' → Q b H') → t σ H Q) : EvT C A e E u Ψ :=
  fun G0 H0 G H σ hE Q q X pins s hX I => (h X hX).run pins s σ H Q I (ht G0 H0 G H σ hE Q q)
theorem EvW.of (t : TT) (h : ∀ X, Has C X → PW X e t) (ht : ∀ G0 H0 G H σ, Env C A G0 H0 u G H E σ → ∀ Q : Bool → Hp → Prop, (∀ b u' G' H', Ψ b u' → Grow (A.foot u) (A.foot u') G H G' H' → A.st u' G' H' → Q b H') → t σ H Q) : EvW C A e E u Ψ :=
  fun G0 H0 G H σ hE Q q X pins s wh hX I => (h X hX).run wh pins s σ H Q I (ht G0 H0 G H σ hE Q q)
theorem EvA.of {es : List Expr} {Φ : List D → A.U → Prop} (t : TA) (h : ∀ X, Has C X → PA X es t) (ht : ∀ G0 H0 G H σ, Env C A G0 H0 u G H E σ → ∀ Q : List V → Hp → Prop, (∀ ds u' vs G' H', Φ ds u' → Grow (A.foot u) (A.foot u') G H G' H' → A.st u' G' H' → RpA C.K G' ds vs → Q vs H') → t σ H Q) : EvA C A es E u Φ :=
  fun G0 H0 G H σ hE Q q X pos pins s hX I => (h X hX).run pos pins s σ H Q I (ht G0 H0 G H σ hE Q q)
theorem EvN.of {Φ : List D → A.U → Prop} (t : TE) (h : ∀ X, Has C X → PE X e t) (ht : ∀ G0 H0 G H σ, Env C A G0 H0 u G H E σ → ∀ Q : VK, (∀ ds u' p xs G' H', Φ ds u' → Grow (A.foot u) (A.foot u') G H G' H' → A.st u' G' H' → H p = none → G' p = none → ¬ A.foot u' p → H' p = some (.lst xs) → RpA C.K G' ds xs → Q (.ref p) H') → t σ H Q) : EvN C A e E u Φ :=
  fun G0 H0 G H σ hE Q q X pins s hX I => (h X hX).run pins s σ H Q I (ht G0 H0 G H σ hE Q q)
theorem StK.of {st : Stmt} {P : Post A} (t : TS) (h : ∀ X, Has C X → PS X st t) (ht : ∀ G0 H0 G H σ Ds, Env C A G0 H0 u G H E σ → Sat C A G0 H0 P Ds → t Ds σ H) : StK C A st E u P :=
  fun G0 H0 G H σ Ds hE hS X pins s hX I => (h X hX).run pins s σ H Ds I (ht G0 H0 G H σ Ds hE hS)
theorem RunK.of {st : List Stmt} {P : Post A} (t : TS) (h : ∀ X, Has C X → PSs X st t) (ht : ∀ G0 H0 G H σ Ds, Env C A G0 H0 u G H E σ → Sat C A G0 H0 P Ds → t Ds σ H) : RunK C A st E u P :=
  fun G0 H0 G H σ Ds hE hS X pins s hX I => (h X hX).run pins s σ H Ds I (ht G0 H0 G H σ Ds hE hS)
theorem EvK.imp {Φ' : D → A.U → Prop} (h : EvK C A e E u Φ) (k : ∀ d u', Φ d u' → Φ' d u') : EvK C A e E u Φ' :=
  fun G0 H0 G H σ hE Q q => h G0 H0 G H σ hE Q fun d u' v G' H' p => q d u' v G' H' (k d u' p)
theorem EvT.imp {Ψ' : Bool → A.U → Prop} (h : EvT C A e E u Ψ) (k : ∀ d u', Ψ d u' → Ψ' d u') : EvT C A e E u Ψ' :=
  fun G0 H0 G H σ hE Q q => h G0 H0 G H σ hE Q fun d u' G' H' p => q d u' G' H' (k d u' p)
theorem t_of_w (h : EvW C A e E u Ψ) : EvT C A e E u Ψ := fun G0 H0 G H σ hE Q q X pins s hX I => h G0 H0 G H σ hE Q q X pins s _ hX I
/-- a new list, known as a datum from now on -/
theorem k_of_n {Φ : D → A.U → Prop} (h : EvN C A e E u fun ds u' => Φ (.lst ds) u') : EvK C A e E u Φ := by
  intro G0 H0 G H σ hE Q q
  refine h G0 H0 G H σ hE _ fun ds u' p xs G' H' hΦ g st h1 h2 h3 h4 h5 => ?_
  have kn : Kn G' (upd G' p (.lst xs)) := Kn.new h2
  refine q _ u' _ (upd G' p (.lst xs)) H' hΦ ⟨g.gg.trans kn, fun a o e => ?_, g.hh, g.th, fun a e n => ?_, g.ff⟩ (A.stay u' G' H' _ H' st kn (fun _ _ _ e => e) fun a f e => ?_) ?_
  · by_cases z : a = p
    · subst z; rw [upd_same] at e; cases e; exact h4
    · rw [upd_ne z] at e; exact g.gh a o e
  · by_cases z : a = p
    · subst z; exact h1
    · rw [upd_ne z] at n; exact g.fr a e n
  · rw [upd_ne (show a ≠ p from fun z => h3 (by rw [← z]; exact f))]; exact e
  · simp only [Rp]
    exact ⟨p, xs, rfl, upd_same, h5.mono kn⟩
end
end L3
namespace L3
open PySem PySem.Spec PyProof.Rows L2
/-! ### names -/
inductive At : NE → Str → Sl → Prop
  | here {x : Str} {s : Sl} {E : NE} : At ((x, s) :: E) x s
  | there {x : Str} {s : Sl} {p : Str × Sl} {E : NE} : At E x s → At (p :: E) x s
theorem At.mem {E : NE} {x : Str} {s : Sl} (h : At E x s) : (x, s) ∈ E := by
  induction h with
  | here => exact List.mem_cons_self
  | there _ ih => exact List.mem_cons_of_mem _ ih
/-- where x stands in E: F s is E with s there -/
inductive Spl : NE → Str → (Sl → NE) → Prop
  | here {x : Str} {t : Sl} {E : NE} : Spl ((x, t) :: E) x (fun s => (x, s) :: E)
  | there {x : Str} {p : Str × Sl} {E : NE} {F : Sl → NE} : Spl E x F → Spl (p :: E) x (fun s => p :: F s)
theorem Spl.spec {E : NE} {x : Str} {F : Sl → NE} (h : Spl E x F) (s : Sl) : (F s).map (·.1) = E.map (·.1) ∧ (x, s) ∈ F s ∧ (∃ t, (x, t) ∈ E) ∧ ∀ p ∈ F s, p = (x, s) ∨ p ∈ E := by
  induction h with
  | here => exact ⟨rfl, List.mem_cons_self, ⟨_, List.mem_cons_self⟩, fun p hp => (List.mem_cons.mp hp).elim .inl fun z => .inr (List.mem_cons_of_mem _ z)⟩
  | there _ ih =>
    obtain ⟨h1, h2, ⟨t, h3⟩, h4⟩ := ih
    refine ⟨by simp only [List.map_cons, h1], List.mem_cons_of_mem _ h2, ⟨t, List.mem_cons_of_mem _ h3⟩, fun p hp => ?_⟩
    rcases List.mem_cons.mp hp with z | z
    · exact .inr (z ▸ List.mem_cons_self)
    · exact (h4 p z).elim .inl fun w => .inr (List.mem_cons_of_mem _ w)
theorem nd_slot {E : NE} (h : (E.map (·.1)).Nodup) {x : Str} {s t : Sl} (a : (x, s) ∈ E) (b : (x, t) ∈ E) : s = t := by
  induction E with
  | nil => cases a
  | cons p E ih =>
    rw [List.map_cons, List.nodup_cons] at h
    rcases List.mem_cons.mp a with e | a'
    · rcases List.mem_cons.mp b with f | b'
      · exact (Prod.mk.inj (e.trans f.symm)).2
      · exact absurd (List.mem_map.mpr ⟨_, b', rfl⟩) (by rw [← e] at h; exact h.1)
    · rcases List.mem_cons.mp b with f | b'
      · exact absurd (List.mem_map.mpr ⟨_, a', rfl⟩) (by rw [← f] at h; exact h.1)
      · exact ih h.2 a' b'
/-- the names of the scope, by kind -/
inductive Nm : List (Str × NameKind) → Str → NameKind → Prop
  | here {x : Str} {k : NameKind} {l : List (Str × NameKind)} : Nm ((x, k) :: l) x k
  | there {x : Str} {k : NameKind} {p : Str × NameKind} {l : List (Str × NameKind)} : Nm l x k → Nm (p :: l) x k
theorem Nm.mem {l : List (Str × NameKind)} {x : Str} {k : NameKind} (h : Nm l x k) : (x, k) ∈ l := by
  induction h with
  | here => exact List.mem_cons_self
  | there _ ih => exact List.mem_cons_of_mem _ ih
end L3
namespace L3
open PySem PySem.Spec PyProof.Rows L2
theorem Nm.vis {X : Cx} {nm : List (Str × NameKind)} (h : NmAll nm X) {x : Str} {kd : NameKind} (n : Nm nm x kd) (v : VisK kd) : Vis X.env.scope x := by
  rcases h.1 x kd n.mem with e | ⟨_, e⟩
  · cases v with
    | l => exact .inl e
    | c => exact .inr (.inl e)
    | f => exact .inr (.inr e)
  · exact .inr (.inl e)
theorem Nm.loc {X : Cx} {nm : List (Str × NameKind)} (h : NmAll nm X) {x : Str} {kd : NameKind} (n : Nm nm x kd) (v : LocK kd) : Loc X.env.scope x := by
  rcases h.1 x kd n.mem with e | ⟨_, e⟩
  · cases v with
    | l => exact .inl e
    | c => exact .inr e
  · exact .inr e
theorem Nm.fn {X : Cx} {nm : List (Str × NameKind)} (h : NmAll nm X) {x : Str} {kd : NameKind} (n : Nm nm x kd) (v : LocK kd) : X.fn x = true ∨ X.env.scope.names.lookup x = some .local := h.2 x kd n.mem v
theorem Nm.gl {X : Cx} {nm : List (Str × NameKind)} (h : NmAll nm X) {x : Str} (n : Nm nm x .globalImplicit) : Gl X x := by
  rcases h.1 x _ n.mem with e | ⟨e, _⟩
  · exact e
  · cases e
section
variable {C : SC} {A : Amb} {E : NE} {u : A.U} {Φ : D → A.U → Prop} {Ψ : Bool → A.U → Prop} {pos p : Pos} {a b c e : Expr}
/-! ### names, constants -/
theorem k_var {x : Str} {d : D} {kd : NameKind} (hE : At E x (.dat d)) (hn : Nm C.nm x kd) (hv : VisK kd) (q : Φ d u) (hd : (x == ("__debug__" : Str)) = false := by decide +kernel) (hc : (x == ("__classdict__" : Str)) = false := by decide +kernel) :
    EvK C A (.Name x p) E u Φ := by
  intro G0 H0 G H σ he Q k X pins s hX I
  obtain ⟨j, nm, rfl, hO, hK⟩ := id hX
  obtain ⟨i, v, h1, h2, h3⟩ := he.dat hE.mem
  exact (pe_var (i := i) h1 (hn.vis hO hv) hd hc).run pins s σ H Q I ⟨v, h2, k d u v G H q (Grow.refl he.kn) he.st h3⟩
theorem k_of_c {v : V} {d : D} (h : ∀ X, Has C X → PE X e (tC v)) (r : ∀ G, Rp C.K G d v) (q : Φ d u) : EvK C A e E u Φ :=
  EvK.of _ h fun G0 H0 G H σ he Q k => k d u v G H q (Grow.refl he.kn) he.st (r G)
theorem k_int {i : Int} {j} (q : Φ (.int i) u) : EvK C A (.Constant (.int i) j p) E u Φ := k_of_c (fun _ _ => pe_int) (fun _ => by simp only [Rp]) q
theorem k_bl {i : Bool} {j} (q : Φ (.bl i) u) : EvK C A (.Constant (.bool i) j p) E u Φ := k_of_c (fun _ _ => pe_bl) (fun _ => by simp only [Rp]) q
theorem k_non {j} (q : Φ .non u) : EvK C A (.Constant .none j p) E u Φ := k_of_c (fun _ _ => pe_non) (fun _ => by simp only [Rp]) q
theorem k_str {i : Str} {j} (q : Φ (.str i) u) : EvK C A (.Constant (.str i) j p) E u Φ := k_of_c (fun _ _ => pe_str) (fun _ => by simp only [Rp]) q
/-- a constant of the module -/
theorem k_glob {x : Str} {d : D} {v : V} {w : Value} (hn : Nm C.nm x .globalImplicit) (hm : C.mg x = some w) (r : RelV v w) (rd : ∀ G, Rp C.K G d v) (q : Φ d u) (hd : (x == ("__debug__" : Str)) = false := by decide +kernel) : EvK C A (.Name x p) E u Φ :=
  k_of_c (fun X ⟨j, nm, e, hO, hK⟩ => by subst e; exact pe_glob (hn.gl hO) hm r hd) rd q
theorem k_globI {x : Str} {i : Int} {t : Tok} (hn : Nm C.nm x .globalImplicit) (hm : C.mg x = some (.int i t)) (q : Φ (.int i) u) (hd : (x == ("__debug__" : Str)) = false := by decide +kernel) : EvK C A (.Name x p) E u Φ :=
  k_glob hn hm (v := .int i) ⟨t, rfl⟩ (fun _ => by simp only [Rp]) q hd
theorem k_globS {x : Str} {i : Str} {t : Tok} (hn : Nm C.nm x .globalImplicit) (hm : C.mg x = some (.str i t)) (q : Φ (.str i) u) (hd : (x == ("__debug__" : Str)) = false := by decide +kernel) : EvK C A (.Name x p) E u Φ :=
  k_glob hn hm (v := .str i) ⟨t, rfl⟩ (fun _ => by simp only [Rp]) q hd
/-- a built-in class as a value -/
theorem k_ty {x : Str} {n : String} (hn : Nm C.nm x .globalImplicit) (hm : C.mg x = none) (hb : bootBuiltins x = some (.type n)) (q : Φ (.ty n) u) (h1 : x ≠ "__name__" := by decide +kernel) (hd : (x == ("__debug__" : Str)) = false := by decide +kernel) : EvK C A (.Name x p) E u Φ :=
  k_of_c (v := .ty n) (fun X ⟨j, nm, e, hO, hK⟩ => by subst e; exact pe_bltn (hn.gl hO) hm hb rfl h1 hd) (fun _ => by simp only [Rp]) q
/-! ### operators on data -/
def rD (K : PySem.W.Frag) (f : D → D → (D → Prop) → Prop) : R2 := fun x y H Q => ∃ G da db Ψ, Kn G H ∧ Rp K G da x ∧ Rp K G db y ∧ f da db Ψ ∧ ∀ d v G' H', Ψ d → Grow noFoot noFoot G H G' H' → Rp K G' d v → Q v H'
def rN (K : PySem.W.Frag) (f : List D → (D → Prop) → Prop) : List V → Hp → VK → Prop := fun xs H Q => ∃ G ds Ψ, Kn G H ∧ RpA K G ds xs ∧ f ds Ψ ∧ ∀ d v G' H', Ψ d → Grow noFoot noFoot G H G' H' → Rp K G' d v → Q v H'
def rM (K : PySem.W.Frag) (f : D → List D → (D → Prop) → Prop) : V → List V → Hp → VK → Prop := fun x xs H Q => ∃ G da ds Ψ, Kn G H ∧ Rp K G da x ∧ RpA K G ds xs ∧ f da ds Ψ ∧ ∀ d v G' H', Ψ d → Grow noFoot noFoot G H G' H' → Rp K G' d v → Q v H'
def OpS (C : SC) (g : Value → Value → Sem Value) (f : D → D → (D → Prop) → Prop) : Prop := ∀ X, Has C X → OpR X g (rD C.K f)
/-- what a two-place operation asks behind both operands -/
theorem two_at {f : D → D → (D → Prop) → Prop} (h : EvK C A a E u fun da u1 => EvK C A b E u1 fun db u2 => f da db fun d => Φ d u2) :
    ∀ G0 H0 G H σ, Env C A G0 H0 u G H E σ → ∀ Q : VK, (∀ d u' v G' H', Φ d u' → Grow (A.foot u) (A.foot u') G H G' H' → A.st u' G' H' → Rp C.K G' d v → Q v H') → tOp (rD C.K f) (rE C a) (rE C b) σ H Q := by
  intro G0 H0 G H σ he Q q
  refine h G0 H0 G H σ he _ fun da u1 v1 G1 H1 p1 g1 s1 r1 => ?_
  refine p1 G0 H0 G1 H1 σ (he.go g1 s1) _ fun db u2 v2 G2 H2 p2 g2 s2 r2 => ?_
  refine ⟨G2, da, db, _, g2.gh, r1.mono g2.gg, r2, p2, fun d v G' H' hd g3 r3 => q d u2 v G' H' hd ((g1.trans g2).trans g3.weak) (A.grow s2 g3) r3⟩
theorem k_bin {op : Operator} {f : D → D → (D → Prop) → Prop} (hs : OpS C (binaryOp op) f) (h : EvK C A a E u fun da u1 => EvK C A b E u1 fun db u2 => f da db fun d => Φ d u2) : EvK C A (.BinOp a op b pos) E u Φ :=
  EvK.of (tOp (rD C.K f) (rE C a) (rE C b)) (fun X hX => pe_op (hs X hX) (pe_of hX a) (pe_of hX b)) (two_at h)
/-- a comparison's answer -/
def toB (f : D → D → (Bool → Prop) → Prop) : D → D → (D → Prop) → Prop := fun x y Ψ => f x y fun b => Ψ (.bl b)
theorem k_cmp {op : CmpOp} {f : D → D → (Bool → Prop) → Prop} (hs : OpS C (compareOp op) (toB f)) (h : EvK C A a E u fun da u1 => EvK C A b E u1 fun db u2 => f da db fun k => Φ (.bl k) u2)
    (hm : behindInMarks op b = false) : EvK C A (.Compare a [op] [b] pos) E u Φ :=
  EvK.of (tOp (rD C.K (toB f)) (rE C a) (rE C b)) (fun X hX => pe_cmpR (hs X hX) (pe_of hX a) (pe_of hX b) hm) (two_at (f := toB f) h)
theorem t_cmp {op : CmpOp} {f : D → D → (Bool → Prop) → Prop} (hs : OpS C (compareOp op) (toB f)) (h : EvK C A a E u fun da u1 => EvK C A b E u1 fun db u2 => f da db fun k => Ψ k u2)
    (hm : behindInMarks op b = false) : EvT C A (.Compare a [op] [b] pos) E u Ψ := by
  refine EvT.of (tTest (tOp (rD C.K (toB f)) (rE C a) (rE C b))) (fun X hX => pt_cmpR (hs X hX) (pe_of hX a) (pe_of hX b) hm) fun G0 H0 G H σ he Q q => ?_
  refine two_at (Φ := fun d u' => match d with | .bl k => Ψ k u' | _ => False) (f := toB f) h G0 H0 G H σ he _ fun d u' v G' H' p g s r => ?_
  cases d with
  | bl k =>
    simp only [Rp] at r
    subst r
    exact ⟨k, rfl, q k u' G' H' p g s⟩
  | _ => exact p.elim
/-! ### truth, and, or, not -/
def truB : D → (Bool → Prop) → Prop
  | .bl b, Ψ => Ψ b
  | .int i, Ψ => Ψ (i != 0)
  | .non, Ψ => Ψ false
  | .str s, Ψ => s.length ≤ sizeLine ∧ Ψ ((s.length : Int) != 0)
  | .lst l, Ψ => Ψ (!l.isEmpty)
  | .tup l, Ψ => Ψ (!l.isEmpty)
  | _, _ => False
theorem RpA.emp {K : PySem.W.Frag} {G : Hp} {ds : List D} {xs : List V} (h : RpA K G ds xs) : (!xs.isEmpty) = !ds.isEmpty := by
  cases ds with
  | nil => rw [RpA.nil_iff] at h; subst h; rfl
  | cons d ds => rw [RpA.cons_iff] at h; obtain ⟨x, r, rfl, _⟩ := h; rfl
theorem t_val (h : EvK C A e E u fun d u' => truB d fun b => Ψ b u') (hw : ∀ env whole, isTrue e env whole = (do let v ← whole; standAt e.pos; holding [v] (truthy v)) := by intro _ _; rfl) : EvT C A e E u Ψ := by
  refine EvT.of (fun σ H Q => rE C e σ H fun x H' => ∃ k, TruV C.K x H' k ∧ Q k H') (fun X hX => by
    obtain ⟨k, nm, rfl, hO, hK⟩ := id hX
    exact pt_truth (pe_of hX e) (hw X.env)) fun G0 H0 G H σ he Q q => ?_
  refine h G0 H0 G H σ he _ fun d u' v G' H' p g s r => ?_
  cases d with
  | bl b => simp only [Rp] at r; subst r; exact ⟨_, rfl, q b u' G' H' p g s⟩
  | int b => simp only [Rp] at r; subst r; exact ⟨_, rfl, q _ u' G' H' p g s⟩
  | non => simp only [Rp] at r; subst r; exact ⟨_, rfl, q _ u' G' H' p g s⟩
  | str b => simp only [Rp] at r; subst r; exact ⟨_, ⟨p.1, rfl⟩, q _ u' G' H' p.2 g s⟩
  | lst l =>
    simp only [Rp] at r
    obtain ⟨a, xs, rfl, h1, h2⟩ := r
    exact ⟨_, .inl ⟨xs, SqL.of (g.gh _ _ h1), h2.emp.symm⟩, q _ u' G' H' p g s⟩
  | tup l =>
    simp only [Rp] at r
    obtain ⟨a, xs, rfl, h1, h2⟩ := r
    exact ⟨_, .inr (.inl ⟨xs, Kn.sqT g.gh h1, h2.emp.symm⟩), q _ u' G' H' p g s⟩
  | _ => exact p.elim
def Br (b : Bool) (X Y : Prop) : Prop := (b = true → X) ∧ (b = false → Y)
theorem Br.t {X Y : Prop} (h : X) : Br true X Y := ⟨fun _ => h, fun z => Bool.noConfusion z⟩
theorem Br.f {X Y : Prop} (h : Y) : Br false X Y := ⟨fun z => Bool.noConfusion z, fun _ => h⟩
theorem t_not (h : EvT C A e E u fun b u' => Ψ (!b) u') : EvT C A (.UnaryOp .Not e pos) E u Ψ := by
  refine EvT.of _ (fun X hX => pt_not (pt_of hX e)) fun G0 H0 G H σ he Q q => ?_
  exact h G0 H0 G H σ he _ fun b u' G' H' p g s => q _ u' G' H' p g s
theorem w_one (o : BoolOp) (h : EvT C A e E u Ψ) : EvW C A (.BoolOp o [e] pos) E u Ψ := by
  cases o with
  | And => exact EvW.of _ (fun X hX => pw_and1 (pt_of hX e)) h
  | Or => exact EvW.of _ (fun X hX => pw_or1 (pt_of hX e)) h
theorem w_and {es : List Expr} (h : EvT C A a E u fun k u1 => Br k (EvW C A (.BoolOp .And (b :: es) pos) E u1 Ψ) (Ψ false u1)) : EvW C A (.BoolOp .And (a :: b :: es) pos) E u Ψ := by
  refine EvW.of _ (fun X hX => pw_and (pt_of hX a) (pw_of hX _)) fun G0 H0 G H σ he Q q => ?_
  refine h G0 H0 G H σ he _ fun k u1 G1 H1 p g s => ?_
  cases k with
  | true => exact iteT (p.1 rfl G0 H0 G1 H1 σ (he.go g s) Q fun b u' G' H' p2 g2 s2 => q b u' G' H' p2 (g.trans g2) s2)
  | false => exact iteF (q false u1 G1 H1 (p.2 rfl) g s)
theorem w_or {es : List Expr} (h : EvT C A a E u fun k u1 => Br k (Ψ true u1) (EvW C A (.BoolOp .Or (b :: es) pos) E u1 Ψ)) : EvW C A (.BoolOp .Or (a :: b :: es) pos) E u Ψ := by
  refine EvW.of _ (fun X hX => pw_or (pt_of hX a) (pw_of hX _)) fun G0 H0 G H σ he Q q => ?_
  refine h G0 H0 G H σ he _ fun k u1 G1 H1 p g s => ?_
  cases k with
  | true => exact iteT (q true u1 G1 H1 (p.1 rfl) g s)
  | false => exact iteF (p.2 rfl G0 H0 G1 H1 σ (he.go g s) Q fun b u' G' H' p2 g2 s2 => q b u' G' H' p2 (g.trans g2) s2)
theorem k_one {o : BoolOp} (h : EvK C A e E u Φ) : EvK C A (.BoolOp o [e] pos) E u Φ := EvK.of _ (fun X hX => pe_one (pe_of hX e)) h
theorem k_and {es : List Expr} (h : EvK C A a E u fun d u1 => ∃ k, d = .bl k ∧ Br k (EvK C A (.BoolOp .And (b :: es) pos) E u1 Φ) (Φ (.bl false) u1)) : EvK C A (.BoolOp .And (a :: b :: es) pos) E u Φ := by
  refine EvK.of _ (fun X hX => pe_and (pe_of hX a) (pe_of hX _)) fun G0 H0 G H σ he Q q => ?_
  refine h G0 H0 G H σ he _ fun d u1 v G1 H1 ⟨k, e, p⟩ g s r => ?_
  subst e
  simp only [Rp] at r
  refine ⟨k, r, ?_⟩
  cases k with
  | true => exact iteT (p.1 rfl G0 H0 G1 H1 σ (he.go g s) Q fun b u' v' G' H' p2 g2 s2 => q b u' v' G' H' p2 (g.trans g2) s2)
  | false => exact iteF (q _ u1 _ G1 H1 (p.2 rfl) g s (by simp only [Rp]))
theorem k_or {es : List Expr} (h : EvK C A a E u fun d u1 => ∃ k, d = .bl k ∧ Br k (Φ (.bl true) u1) (EvK C A (.BoolOp .Or (b :: es) pos) E u1 Φ)) : EvK C A (.BoolOp .Or (a :: b :: es) pos) E u Φ := by
  refine EvK.of _ (fun X hX => pe_or (pe_of hX a) (pe_of hX _)) fun G0 H0 G H σ he Q q => ?_
  refine h G0 H0 G H σ he _ fun d u1 v G1 H1 ⟨k, e, p⟩ g s r => ?_
  subst e
  simp only [Rp] at r
  refine ⟨k, r, ?_⟩
  cases k with
  | true => exact iteT (q _ u1 _ G1 H1 (p.1 rfl) g s (by simp only [Rp]))
  | false => exact iteF (p.2 rfl G0 H0 G1 H1 σ (he.go g s) Q fun b u' v' G' H' p2 g2 s2 => q b u' v' G' H' p2 (g.trans g2) s2)
theorem k_notV (h : EvK C A e E u fun d u' => ∃ k, d = .bl k ∧ Φ (.bl (!k)) u') : EvK C A (.UnaryOp .Not e pos) E u Φ := by
  refine EvK.of _ (fun X hX => pe_not (pe_of hX e)) fun G0 H0 G H σ he Q q => ?_
  refine h G0 H0 G H σ he _ fun d u1 v G1 H1 ⟨k, e, p⟩ g s r => ?_
  subst e
  simp only [Rp] at r
  exact ⟨k, r, q _ u1 _ G1 H1 p g s (by simp only [Rp])⟩
theorem k_if (h : EvT C A c E u fun k u1 => Br k (EvK C A a E u1 Φ) (EvK C A b E u1 Φ)) : EvK C A (.IfExp c a b pos) E u Φ := by
  refine EvK.of _ (fun X hX => pe_ifExp (pt_of hX c) (pe_of hX a) (pe_of hX b)) fun G0 H0 G H σ he Q q => ?_
  refine h G0 H0 G H σ he _ fun k u1 G1 H1 p g s => ?_
  cases k with
  | true => exact iteT (p.1 rfl G0 H0 G1 H1 σ (he.go g s) Q fun b u' v' G' H' p2 g2 s2 => q b u' v' G' H' p2 (g.trans g2) s2)
  | false => exact iteF (p.2 rfl G0 H0 G1 H1 σ (he.go g s) Q fun b u' v' G' H' p2 g2 s2 => q b u' v' G' H' p2 (g.trans g2) s2)
theorem k_neg (h : EvK C A e E u fun d u' => ∃ i, d = .int i ∧ Φ (.int (-i)) u') : EvK C A (.UnaryOp .USub e pos) E u Φ := by
  refine EvK.of _ (fun X hX => pe_un un_neg (pe_of hX e)) fun G0 H0 G H σ he Q q => ?_
  refine h G0 H0 G H σ he _ fun d u1 v G1 H1 ⟨k, e, p⟩ g s r => ?_
  subst e
  simp only [Rp] at r
  exact ⟨k, r, q _ u1 _ G1 H1 p g s (by simp only [Rp])⟩
def isN : D → Bool
  | .non => true
  | _ => false
theorem k_isN {j p'} (h : EvK C A a E u fun d u' => Φ (.bl (isN d)) u') : EvK C A (.Compare a [.Is] [.Constant .none j p'] pos) E u Φ := by
  refine EvK.of _ (fun X hX => pe_cmp (pc_isN (pe_of hX a)) rfl) fun G0 H0 G H σ he Q q => ?_
  refine h G0 H0 G H σ he _ fun d u1 v G1 H1 p g s r => ?_
  have e : V.bl (decide (v = V.non)) = V.bl (isN d) := by
    cases d <;> simp only [Rp] at r <;> first | (subst r; rfl) | (obtain ⟨_, _, rfl, _⟩ := r; rfl) | (obtain ⟨_, _, _, rfl, _⟩ := r; rfl)
  show Q (.bl (decide (v = V.non))) H1
  rw [e]
  exact q _ u1 _ G1 H1 p g s (by simp only [Rp])
theorem k_notN {j p'} (h : EvK C A a E u fun d u' => Φ (.bl (!isN d)) u') : EvK C A (.Compare a [.IsNot] [.Constant .none j p'] pos) E u Φ := by
  refine EvK.of _ (fun X hX => pe_cmp (pc_notN (pe_of hX a)) rfl) fun G0 H0 G H σ he Q q => ?_
  refine h G0 H0 G H σ he _ fun d u1 v G1 H1 p g s r => ?_
  have e : V.bl (!decide (v = V.non)) = V.bl (!isN d) := by
    cases d <;> simp only [Rp] at r <;> first | (subst r; rfl) | (obtain ⟨_, _, rfl, _⟩ := r; rfl) | (obtain ⟨_, _, _, rfl, _⟩ := r; rfl)
  show Q (.bl (!decide (v = V.non))) H1
  rw [e]
  exact q _ u1 _ G1 H1 p g s (by simp only [Rp])
/-! ### arguments, displays, items, calls -/
theorem a_nil {Θ : List D → A.U → Prop} (q : Θ [] u) : EvA C A [] E u Θ :=
  EvA.of _ (fun X hX => pa_nil) fun G0 H0 G H σ he Q k => k [] u [] G H q (Grow.refl he.kn) he.st (RpA.nil_iff.mpr rfl)
theorem a_cons {Θ : List D → A.U → Prop} {es : List Expr} (h : EvK C A e E u fun d u1 => EvA C A es E u1 fun ds u2 => Θ (d :: ds) u2) (hs : ∀ env, starEach (e :: es) env = (false, eval e env) :: starEach es env := by intro _; rfl) : EvA C A (e :: es) E u Θ := by
  refine EvA.of _ (fun X hX => pa_cons (pe_of hX e) (pa_of hX es) (hs X.env)) fun G0 H0 G H σ he Q q => ?_
  refine h G0 H0 G H σ he _ fun d u1 v G1 H1 p g s r => ?_
  refine p G0 H0 G1 H1 σ (he.go g s) _ fun ds u2 vs G2 H2 p2 g2 s2 r2 => ?_
  exact q _ u2 _ G2 H2 p2 (g.trans g2) s2 (RpA.cons (r.mono g2.gg) r2)
theorem k_tup {es : List Expr} {x1} (h : EvA C A es E u fun ds u' => ds.length ≤ sizeLine ∧ Φ (.tup ds) u') : EvK C A (.Tuple es x1 pos) E u Φ := by
  refine EvK.of _ (fun X hX => pe_tup (pa_of hX es)) fun G0 H0 G H σ he Q q => ?_
  refine h G0 H0 G H σ he _ fun ds u1 vs G1 H1 ⟨hl, p⟩ g s r => ⟨by rw [r.len]; exact hl, fun z hz => ?_⟩
  have g2 : Grow noFoot noFoot G1 H1 (upd G1 z (.tup vs)) (upd H1 z (.tup vs)) := Grow.new g.gh hz
  exact q _ u1 _ _ _ p (g.trans g2.weak) (A.grow s g2) (by simp only [Rp]; exact ⟨z, vs, rfl, .inl (.inl upd_same), r.mono g2.gg⟩)
theorem n_lst {es : List Expr} {Θ : List D → A.U → Prop} (h : EvA C A es E u fun ds u' => ds.length ≤ sizeLine ∧ Θ ds u') : EvN C A (.List es pos) E u Θ := by
  refine EvN.of _ (fun X hX => pe_lst (pa_of hX es)) fun G0 H0 G H σ he Q q => ?_
  refine h G0 H0 G H σ he _ fun ds u1 vs G1 H1 ⟨hl, p⟩ g s r => ⟨by rw [r.len]; exact hl, fun z hz => ?_⟩
  have g2 : Grow noFoot noFoot G1 H1 G1 (upd H1 z (.lst vs)) := Grow.own g.gh hz
  have hz0 : H z = none := by
    cases w : H z with
    | none => rfl
    | some o => exact absurd hz (g.th z (by rw [w]; simp))
  exact q ds u1 z vs _ _ p (g.trans g2.weak) (A.grow s g2) hz0 (g.gh.back hz) (fun f => A.there _ _ _ s z f hz) upd_same r
theorem k_lst {es : List Expr} (h : EvA C A es E u fun ds u' => ds.length ≤ sizeLine ∧ Φ (.lst ds) u') : EvK C A (.List es pos) E u Φ := k_of_n (n_lst h)
def IxS (C : SC) (f : D → D → (D → Prop) → Prop) : Prop := ∀ X, Has C X → IxR X (rD C.K f)
theorem k_ixG {f : D → D → (D → Prop) → Prop} (hs : IxS C f) (h : EvK C A a E u fun da u1 => EvK C A b E u1 fun db u2 => f da db fun d => Φ d u2) (hx : PlainIx b := by exact fun _ _ => rfl) : EvK C A (.Subscript a b pos) E u Φ :=
  EvK.of (tOp (rD C.K f) (rE C a) (rE C b)) (fun X hX => pe_ix (hs X hX) (pe_of hX a) (pe_of hX b) hx) (two_at h)
def ixW : D → D → (D → Prop) → Prop
  | .lst l, .int i, Ψ => ∃ d, atI l i = some d ∧ Ψ d
  | .tup l, .int i, Ψ => ∃ d, atI l i = some d ∧ Ψ d
  | .str s, .int i, Ψ => s.length ≤ sizeLine ∧ ∃ c, atI s.cps.toList i = some c ∧ Ψ (.str ⟨#[c]⟩)
  | _, _, _ => False
theorem RpA.atI {K : PySem.W.Frag} {G : Hp} {ds : List D} {xs : List V} {i : Int} {d : D} (h : RpA K G ds xs) (e : L2.atI ds i = some d) : ∃ x, L2.atI xs i = some x ∧ Rp K G d x := by
  unfold L2.atI at e ⊢
  rw [h.len]
  cases q : ixN ds.length i with
  | none => rw [q] at e; cases e
  | some j =>
    rw [q] at e
    exact h.getD (show ds[j]? = some d from e)
theorem ix_ok : IxS C ixW := by
  rintro X ⟨k, nm, rfl, hO, hK⟩ value slice pins s σ H x y v w Q I rx ry ⟨G, da, db, Θ, kn, ra, rb, f, q⟩ hsub
  cases da <;> cases db <;> try exact f.elim
  case str.int t i =>
    simp only [Rp] at ra rb
    subst ra rb
    obtain ⟨hl, c, hc, f⟩ := f
    exact ix_str value slice pins s σ H _ _ v w Q I rx ry ⟨t, i, c, rfl, rfl, hl, hc, q _ _ G H f (Grow.refl kn) (by simp only [Rp])⟩ hsub
  case lst.int l i =>
    simp only [Rp] at ra rb
    subst rb
    obtain ⟨a, xs, rfl, h1, h2⟩ := ra
    obtain ⟨d, hd, f⟩ := f
    obtain ⟨z, hz, rz⟩ := h2.atI hd
    exact ix_list value slice pins s σ H _ _ v w Q I rx ry ⟨a, xs, i, z, rfl, rfl, SqL.of (kn _ _ h1), hz, q _ _ G H f (Grow.refl kn) rz⟩ hsub
  case tup.int l i =>
    simp only [Rp] at ra rb
    subst rb
    obtain ⟨a, xs, rfl, h1, h2⟩ := ra
    obtain ⟨d, hd, f⟩ := f
    obtain ⟨z, hz, rz⟩ := h2.atI hd
    exact ix_tup value slice pins s σ H _ _ v w Q I rx ry ⟨a, xs, i, z, rfl, rfl, kn.sqT h1, hz, q _ _ G H f (Grow.refl kn) rz⟩ hsub
theorem k_ix (h : EvK C A a E u fun da u1 => EvK C A b E u1 fun db u2 => ixW da db fun d => Φ d u2) (hx : PlainIx b := by exact fun _ _ => rfl) : EvK C A (.Subscript a b pos) E u Φ := k_ixG ix_ok h hx
def CallS (C : SC) (f : Value) (W : List D → (D → Prop) → Prop) : Prop := ∀ X, Has C X → CallR X f (rN C.K W)
theorem many_at {es : List Expr} {W : List D → (D → Prop) → Prop} (h : EvA C A es E u fun ds u' => W ds fun d => Φ d u') :
    ∀ G0 H0 G H σ, Env C A G0 H0 u G H E σ → ∀ Q : VK, (∀ d u' v G' H', Φ d u' → Grow (A.foot u) (A.foot u') G H G' H' → A.st u' G' H' → Rp C.K G' d v → Q v H') → tCB (rN C.K W) (rA C es) σ H Q := by
  intro G0 H0 G H σ he Q q
  refine h G0 H0 G H σ he _ fun ds u1 vs G1 H1 p g s r => ?_
  exact ⟨G1, ds, _, g.gh, r, p, fun d v G' H' hd g2 r2 => q d u1 v G' H' hd (g.trans g2.weak) (A.grow s g2) r2⟩
theorem k_callB {x : Str} {bid : String} {es : List Expr} {W : List D → (D → Prop) → Prop} (hc : CallS C (.builtin bid) W) (hn : Nm C.nm x .globalImplicit) (hm : C.mg x = none) (hv : bootBuiltins x = some (.builtin bid)) (h : EvA C A (e :: es) E u fun ds u' => W ds fun d => Φ d u')
    (h1 : x ≠ "__name__" := by decide +kernel) (h2 : (x == ("__debug__" : Str)) = false := by decide +kernel) (he : ∀ env, starEach (e :: es) env = (false, eval e env) :: starEach es env := by intro _; rfl) (hpl : ∀ env, (backTo pos (starEach es env)).any (·.1) = false := by intro _; rfl) :
    EvK C A (.Call (.Name x p) (e :: es) [] pos) E u Φ :=
  EvK.of _ (fun X hX => by
    obtain ⟨k, nm, rfl, hO, hK⟩ := id hX
    exact pe_callB (hc X hX) (hn.gl hO) hm hv (pa_of hX (e :: es)) h1 h2 (he X.env) (hpl X.env)) (many_at h)
theorem k_callTy {x : Str} {T : String} {es : List Expr} {W : List D → (D → Prop) → Prop} (hc : CallS C (.type T) W) (hn : Nm C.nm x .globalImplicit) (hm : C.mg x = none) (hv : bootBuiltins x = some (.type T)) (h : EvA C A (e :: es) E u fun ds u' => W ds fun d => Φ d u')
    (h1 : x ≠ "__name__" := by decide +kernel) (h2 : (x == ("__debug__" : Str)) = false := by decide +kernel) (he : ∀ env, starEach (e :: es) env = (false, eval e env) :: starEach es env := by intro _; rfl) (hpl : ∀ env, (backTo pos (starEach es env)).any (·.1) = false := by intro _; rfl) :
    EvK C A (.Call (.Name x p) (e :: es) [] pos) E u Φ :=
  EvK.of _ (fun X hX => by
    obtain ⟨k, nm, rfl, hO, hK⟩ := id hX
    exact pe_callTy (hc X hX) (hn.gl hO) hm hv (pa_of hX (e :: es)) h1 h2 (he X.env) (hpl X.env)) (many_at h)
end
end L3
namespace L3
open PySem PySem.Spec PyProof.Rows L2
/-! ### plain data -/
mutual
def D.pl : D → Bool
  | .non | .bl _ | .int _ | .str _ => true
  | .lst l | .tup l => D.plA l
  | _ => false
def D.plA : List D → Bool
  | [] => true
  | d :: ds => d.pl && D.plA ds
end
mutual
def pd : D → PyData
  | .bl b => .bool b
  | .int i => .int i
  | .str s => .str s
  | .lst l => .list (pdA l)
  | .tup l => .tuple (pdA l)
  | _ => .none
def pdA : List D → List PyData
  | [] => []
  | d :: ds => pd d :: pdA ds
end
section
variable {K : PySem.W.Frag} {G H : Hp}
mutual
theorem Rp.dp (kn : Kn G H) : ∀ {d : D} {v : V}, d.pl = true → Rp K G d v → Dp K H v (pd d)
  | .non, v, _, h => by simp only [Rp] at h; subst h; exact .non
  | .bl b, v, _, h => by simp only [Rp] at h; subst h; exact .bl b
  | .int b, v, _, h => by simp only [Rp] at h; subst h; exact .int b
  | .str b, v, _, h => by simp only [Rp] at h; subst h; exact .str b
  | .lst l, v, p, h => by
    simp only [Rp] at h
    simp only [D.pl] at p
    obtain ⟨a, xs, rfl, h1, h2⟩ := h
    exact .lst (SqL.of (kn _ _ h1)) (RpA.dp kn p h2)
  | .tup l, v, p, h => by
    simp only [Rp] at h
    simp only [D.pl] at p
    obtain ⟨a, xs, rfl, h1, h2⟩ := h
    exact .tup (kn.sqT h1) (RpA.dp kn p h2)
  | .ty _, _, p, _ | .obj _, _, p, _ | .dct _, _, p, _ | .fdc _, _, p, _ => by simp only [D.pl] at p; cases p
theorem RpA.dp (kn : Kn G H) : ∀ {ds : List D} {xs : List V}, D.plA ds = true → RpA K G ds xs → DpAll K H xs (pdA ds)
  | [], xs, _, h => by rw [RpA.nil_iff] at h; subst h; exact .nil
  | d :: ds, xs, p, h => by
    rw [RpA.cons_iff] at h
    simp only [D.plA, Bool.and_eq_true] at p
    obtain ⟨x, r, rfl, h1, h2⟩ := h
    exact .cons (Rp.dp kn p.1 h1) (RpA.dp kn p.2 h2)
end
end
/-- both can be compared -/
def Cmpb (d e : D) : Prop := d.pl = true ∧ e.pl = true ∧ (pd d).canLay0 = true ∧ (pd e).canLay0 = true ∧ min (pd d).depth (pd e).depth ≤ 64
/-! ### operators -/
def addW : D → D → (D → Prop) → Prop
  | .int i, .int j, Ψ => Ψ (.int (i + j))
  | .str s, .str t, Ψ => s.length + t.length ≤ sizeLine ∧ Ψ (.str (s ++ t))
  | .tup a, .tup b, Ψ => a.length + b.length ≤ sizeLine ∧ Ψ (.tup (a ++ b))
  | .lst a, .lst b, Ψ => a.length + b.length ≤ sizeLine ∧ Ψ (.lst (a ++ b))
  | _, _, _ => False
def subW : D → D → (D → Prop) → Prop
  | .int i, .int j, Ψ => Ψ (.int (i - j))
  | _, _, _ => False
def strRep (n : Nat) (s : Str) : Str := ⟨(List.replicate n s.cps.toList).flatten.toArray⟩
def mulW : D → D → (D → Prop) → Prop
  | .int i, .int j, Ψ => CMulW i j ∧ Ψ (.int (i * j))
  | .lst a, .int j, Ψ => -(2 ^ 63) ≤ j ∧ j < 2 ^ 63 ∧ a.length * j.toNat ≤ sizeLine ∧ Ψ (.lst (List.replicate j.toNat a).flatten)
  | .str s, .int j, Ψ => -(2 ^ 63) ≤ j ∧ j ≤ 100000 ∧ s.length * j.toNat ≤ 100000 ∧ Ψ (.str (strRep j.toNat s))
  | .tup a, .int j, Ψ => a ≠ [] ∧ 1 ≤ j ∧ j ≤ 1000 ∧ a.length ≤ 1000 ∧ Ψ (.tup (List.replicate j.toNat a).flatten)
  | _, _, _ => False
def fdivW : D → D → (D → Prop) → Prop
  | .int i, .int j, Ψ => CDivW i j ∧ Ψ (.int (i / j))
  | _, _, _ => False
def modW : D → D → (D → Prop) → Prop
  | .int i, .int j, Ψ => 0 < j ∧ Ψ (.int (i % j))
  | _, _, _ => False
def powW : D → D → (D → Prop) → Prop
  | .int i, .int j, Ψ => CPow i j ∧ Ψ (.int (i ^ j.toNat))
  | _, _, _ => False
def ltB : D → D → (Bool → Prop) → Prop
  | .int i, .int j, Ψ => Ψ (decide (i < j))
  | _, _, _ => False
def leB : D → D → (Bool → Prop) → Prop
  | .int i, .int j, Ψ => Ψ (decide (i ≤ j))
  | _, _, _ => False
def gtB : D → D → (Bool → Prop) → Prop
  | .int i, .int j, Ψ => Ψ (decide (j < i))
  | _, _, _ => False
def geB : D → D → (Bool → Prop) → Prop
  | .int i, .int j, Ψ => Ψ (decide (j ≤ i))
  | _, _, _ => False
def eqB : D → D → (Bool → Prop) → Prop
  | .int i, .int j, Ψ => Ψ (decide (i = j))
  | .str i, .str j, Ψ => Ψ (decide (i = j))
  | .bl i, .bl j, Ψ => Ψ (decide (i = j))
  | d, e, Ψ => Cmpb d e ∧ Ψ (PyData.eqv (pd d) (pd e))
def neB : D → D → (Bool → Prop) → Prop
  | .int i, .int j, Ψ => Ψ (!decide (i = j))
  | .str i, .str j, Ψ => Ψ (!decide (i = j))
  | .bl i, .bl j, Ψ => Ψ (!decide (i = j))
  | d, e, Ψ => Cmpb d e ∧ Ψ (!PyData.eqv (pd d) (pd e))
section
variable {C : SC}
theorem opI_ok {g : Value → Value → Sem Value} {f : D → D → (D → Prop) → Prop} {P : Int → Int → Prop} {w : Int → Int → Int} (h : ∀ X, OpR X g (rI P fun i j => .int (w i j)))
    (hf : ∀ d e Ψ, f d e Ψ → ∃ i j, d = .int i ∧ e = .int j ∧ P i j ∧ Ψ (.int (w i j))) : OpS C g f := by
  rintro X ⟨k, nm, rfl, hO, hK⟩ pins s σ H x y v u Q I rx ry ⟨G, da, db, Ψ, kn, ra, rb, f, q⟩
  obtain ⟨i, j, rfl, rfl, p, f⟩ := hf _ _ _ f
  simp only [Rp] at ra rb
  subst ra rb
  exact h X pins s σ H _ _ v u Q I rx ry ⟨i, j, rfl, rfl, p, q _ _ G H f (Grow.refl kn) (by simp only [Rp])⟩
theorem opB_ok {g : Value → Value → Sem Value} {f : D → D → (Bool → Prop) → Prop} {w : Int → Int → Bool} (h : ∀ X, OpR X g (rI0 fun i j => .bl (w i j)))
    (hf : ∀ d e Ψ, f d e Ψ → ∃ i j, d = .int i ∧ e = .int j ∧ Ψ (w i j)) : OpS C g (toB f) := by
  rintro X ⟨k, nm, rfl, hO, hK⟩ pins s σ H x y v u Q I rx ry ⟨G, da, db, Ψ, kn, ra, rb, f, q⟩
  obtain ⟨i, j, rfl, rfl, f2⟩ := hf _ _ _ f
  simp only [Rp] at ra rb
  subst ra rb
  exact h X pins s σ H _ _ v u Q I rx ry ⟨i, j, rfl, rfl, q (.bl (w i j)) _ G H f2 (Grow.refl kn) (by simp only [Rp])⟩
theorem sub_ok : OpS C (binaryOp .Sub) subW := opI_ok (P := fun _ _ => True) (w := fun i j => i - j) (fun X pins s σ H x y v u Q I rx ry ⟨i, j, e, f, _, q⟩ => op_sub pins s σ H x y v u Q I rx ry ⟨i, j, e, f, q⟩) (by
  intro d e Ψ f
  cases d <;> cases e <;> first | exact f.elim | exact ⟨_, _, rfl, rfl, trivial, f⟩)
theorem fdiv_ok : OpS C (binaryOp .FloorDiv) fdivW := opI_ok (fun X => op_fdivW) (by
  intro d e Ψ f
  cases d <;> cases e <;> first | exact f.elim | exact ⟨_, _, rfl, rfl, f.1, f.2⟩)
theorem mod_ok : OpS C (binaryOp .Mod) modW := opI_ok (fun X => op_mod) (by
  intro d e Ψ f
  cases d <;> cases e <;> first | exact f.elim | exact ⟨_, _, rfl, rfl, f.1, f.2⟩)
theorem pow_ok : OpS C (binaryOp .Pow) powW := opI_ok (fun X => op_pow) (by
  intro d e Ψ f
  cases d <;> cases e <;> first | exact f.elim | exact ⟨_, _, rfl, rfl, f.1, f.2⟩)
theorem lt_ok : OpS C (compareOp .Lt) (toB ltB) := opB_ok (fun X => op_lt) (by
  intro d e Ψ f
  cases d <;> cases e <;> first | exact f.elim | exact ⟨_, _, rfl, rfl, f⟩)
theorem le_ok : OpS C (compareOp .LtE) (toB leB) := opB_ok (fun X => op_le) (by
  intro d e Ψ f
  cases d <;> cases e <;> first | exact f.elim | exact ⟨_, _, rfl, rfl, f⟩)
theorem gt_ok : OpS C (compareOp .Gt) (toB gtB) := opB_ok (fun X => op_gt) (by
  intro d e Ψ f
  cases d <;> cases e <;> first | exact f.elim | exact ⟨_, _, rfl, rfl, f⟩)
theorem ge_ok : OpS C (compareOp .GtE) (toB geB) := opB_ok (fun X => op_ge) (by
  intro d e Ψ f
  cases d <;> cases e <;> first | exact f.elim | exact ⟨_, _, rfl, rfl, f⟩)
theorem add_ok : OpS C (binaryOp .Add) addW := by
  rintro X ⟨k, nm, rfl, hO, hK⟩ pins s σ H x y v u Q I rx ry ⟨G, da, db, Ψ, kn, ra, rb, f, q⟩
  cases da <;> cases db <;> try exact f.elim
  case int.int i j =>
    simp only [Rp] at ra rb
    subst ra rb
    exact op_add pins s σ H _ _ v u Q I rx ry ⟨i, j, rfl, rfl, q _ _ G H f (Grow.refl kn) (by simp only [Rp])⟩
  case str.str i j =>
    simp only [Rp] at ra rb
    subst ra rb
    exact op_add_str pins s σ H _ _ v u Q I rx ry ⟨i, j, rfl, rfl, f.1, q _ _ G H f.2 (Grow.refl kn) (by simp only [Rp])⟩
  case lst.lst l m =>
    simp only [Rp] at ra rb
    obtain ⟨a, xs, rfl, h1, h2⟩ := ra
    obtain ⟨b, ys, rfl, k1, k2⟩ := rb
    refine op_cat pins s σ H _ _ v u Q I rx ry ⟨a, b, xs, ys, rfl, rfl, kn _ _ h1, kn _ _ k1, by rw [h2.len, k2.len]; exact f.1, fun p hp => ?_⟩
    have g : Grow noFoot noFoot G H (upd G p (.lst (xs ++ ys))) (upd H p (.lst (xs ++ ys))) := Grow.new kn hp
    exact q _ _ _ _ f.2 g (by simp only [Rp]; exact ⟨p, _, rfl, upd_same, (h2.append k2).mono g.gg⟩)
  case tup.tup l m =>
    simp only [Rp] at ra rb
    obtain ⟨a, xs, rfl, h1, h2⟩ := ra
    obtain ⟨b, ys, rfl, k1, k2⟩ := rb
    have emp : ∀ {ds : List D} {zs : List V}, RpA X.K G ds zs → zs = [] → ds = [] := fun {ds zs} r e => by
      have := r.len; rw [e] at this; exact List.eq_nil_of_length_eq_zero this.symm
    refine op_catA pins s σ H _ _ v u Q I rx ry ⟨a, b, xs, ys, rfl, rfl, kn.sqT h1, kn.sqT k1, by rw [h2.len, k2.len]; exact f.1, fun e => ?_, fun e1 e2 => ?_, fun e1 e2 p hp => ?_⟩
    · obtain rfl := emp h2 e
      exact q _ _ G H f.2 (Grow.refl kn) (by simp only [Rp, List.nil_append]; exact ⟨b, ys, rfl, k1, k2⟩)
    · obtain rfl := emp k2 e2
      exact q _ _ G H f.2 (Grow.refl kn) (by simp only [Rp, List.append_nil]; exact ⟨a, xs, rfl, h1, h2⟩)
    · have g : Grow noFoot noFoot G H (upd G p (.tup (xs ++ ys))) (upd H p (.tup (xs ++ ys))) := Grow.new kn hp
      exact q _ _ _ _ f.2 g (by simp only [Rp]; exact ⟨p, _, rfl, .inl (.inl upd_same), (h2.append k2).mono g.gg⟩)
theorem eq_ok : OpS C (compareOp .Eq) (toB eqB) := by
  rintro X ⟨k, nm, rfl, hO, hK⟩ pins s σ H x y v u Q I rx ry ⟨G, da, db, Ψ, kn, ra, rb, f, q⟩
  have gen : Cmpb da db ∧ Ψ (.bl (PyData.eqv (pd da) (pd db))) → wpAny (model X.prog X.w) X.A (compareOp .Eq v u) (EP X pins σ Q) X.xe s := fun ⟨⟨c1, c2, c3, c4, c5⟩, p⟩ => by
    obtain ⟨as, r1⟩ := Dp.reads I _ x v (Rp.dp kn c1 ra) rx
    obtain ⟨bs, r2⟩ := Dp.reads I _ y u (Rp.dp kn c2 rb) ry
    have := Has.hu hK
    exact SeqAt.compareEq_reads r1 r2 c3 c4 (by omega) ⟨.bl _, H, I, rfl, q _ _ G H p (Grow.refl kn) (by simp only [Rp])⟩
  have sc : ∀ {x' y' : V}, x = x' → y = y' → scal x' y' = true → Ψ (.bl (decide (x' = y'))) → wpAny (model X.prog X.w) X.A (compareOp .Eq v u) (EP X pins σ Q) X.xe s := fun {x' y'} e1 e2 h p => by
    subst e1 e2
    exact op_eq pins s σ H _ _ v u Q I rx ry ⟨h, q _ _ G H p (Grow.refl kn) (by simp only [Rp])⟩
  cases da <;> cases db <;> first
    | exact gen f
    | (simp only [Rp] at ra rb; refine sc ra rb rfl ?_; simpa only [V.int.injEq, V.str.injEq, V.bl.injEq, toB, eqB, neB] using f)
theorem ne_ok : OpS C (compareOp .NotEq) (toB neB) := by
  rintro X ⟨k, nm, rfl, hO, hK⟩ pins s σ H x y v u Q I rx ry ⟨G, da, db, Ψ, kn, ra, rb, f, q⟩
  have gen : Cmpb da db ∧ Ψ (.bl (!PyData.eqv (pd da) (pd db))) → wpAny (model X.prog X.w) X.A (compareOp .NotEq v u) (EP X pins σ Q) X.xe s := fun ⟨⟨c1, c2, c3, c4, c5⟩, p⟩ => by
    obtain ⟨as, r1⟩ := Dp.reads I _ x v (Rp.dp kn c1 ra) rx
    obtain ⟨bs, r2⟩ := Dp.reads I _ y u (Rp.dp kn c2 rb) ry
    have := Has.hu hK
    exact SeqAt.compareNe_reads r1 r2 c3 c4 (by omega) ⟨.bl _, H, I, rfl, q _ _ G H p (Grow.refl kn) (by simp only [Rp])⟩
  have sc : ∀ {x' y' : V}, x = x' → y = y' → scal x' y' = true → Ψ (.bl (!decide (x' = y'))) → wpAny (model X.prog X.w) X.A (compareOp .NotEq v u) (EP X pins σ Q) X.xe s := fun {x' y'} e1 e2 h p => by
    subst e1 e2
    exact op_ne pins s σ H _ _ v u Q I rx ry ⟨h, q _ _ G H p (Grow.refl kn) (by simp only [Rp])⟩
  cases da <;> cases db <;> first
    | exact gen f
    | (simp only [Rp] at ra rb; refine sc ra rb rfl ?_; simpa only [V.int.injEq, V.str.injEq, V.bl.injEq, toB, eqB, neB] using f)
end
end L3
namespace L3
open PySem PySem.Spec PyProof.Rows L2
section
variable {C : SC} {A : Amb} {E : NE} {u : A.U} {Φ : D → A.U → Prop} {Ψ : Bool → A.U → Prop} {pos p : Pos} {a b c e : Expr} {P : Post A} {st : Stmt} {sts rest : List Stmt}
/-! ### statements -/
theorem Sat.nxt {G0 : Beg} {H0 : Hp} {P : Post A} {Ds : Ends} (S : Sat C A G0 H0 P Ds) {N : NE → A.U → Prop} {n : L2.St → Hp → Prop} (h : ∀ E u G H σ, N E u → Env C A G0 H0 u G H E σ → n σ H) : Sat C A G0 H0 { P with nx := N } { Ds with nx := n } := ⟨h, S.bk, S.ct, S.rt⟩
theorem r_nil (q : P.nx E u) : RunK C A [] E u P := RunK.of _ (fun X hX => pss_nil) fun G0 H0 G H σ Ds he S => S.nx E u G H σ q he
theorem r_cons (h : StK C A st E u { P with nx := fun E' u' => RunK C A rest E' u' P }) : RunK C A (st :: rest) E u P := by
  refine RunK.of _ (fun X hX => pss_cons (ps_of hX st) (pss_of hX rest)) fun G0 H0 G H σ Ds he S => ?_
  exact h G0 H0 G H σ _ he (S.nxt fun E' u' G' H' σ' r he' => r G0 H0 G' H' σ' Ds he' S)
theorem RunK.imp {P' : Post A} (h : RunK C A sts E u P) (h1 : ∀ E u, P.nx E u → P'.nx E u) (h2 : ∀ E u, P.bk E u → P'.bk E u) (h3 : ∀ E u, P.ct E u → P'.ct E u) (h4 : ∀ d u, P.rt d u → P'.rt d u) : RunK C A sts E u P' :=
  fun G0 H0 G H σ Ds he S => h G0 H0 G H σ Ds he ⟨fun E u G H σ p => S.nx E u G H σ (h1 E u p), fun E u G H σ p => S.bk E u G H σ (h2 E u p), fun E u G H σ p => S.ct E u G H σ (h3 E u p), fun d u v G H p => S.rt d u v G H (h4 d u p)⟩
theorem s_ret (h : EvK C A e E u P.rt) : StK C A (.Return (some e) pos) E u P := by
  refine StK.of _ (fun X hX => ps_ret (pe_of hX e)) fun G0 H0 G H σ Ds he S => ?_
  refine h G0 H0 G H σ he _ fun d u' v G' H' p g s r => S.rt d u' v G' H' p (he.gr.trans g) s r
theorem s_if {t f : List Stmt} (h : EvT C A c E u fun k u1 => Br k (RunK C A t E u1 P) (RunK C A f E u1 P)) : StK C A (.If c t f pos) E u P := by
  refine StK.of _ (fun X hX => ps_if (pt_of hX c) (pss_of hX t) (pss_of hX f)) fun G0 H0 G H σ Ds he S => ?_
  refine h G0 H0 G H σ he _ fun k u1 G1 H1 p g s => ?_
  cases k with
  | true => exact iteT (p.1 rfl G0 H0 G1 H1 σ Ds (he.go g s) S)
  | false => exact iteF (p.2 rfl G0 H0 G1 H1 σ Ds (he.go g s) S)
/-- a slot takes a datum -/
theorem Env.put {G0 : Beg} {H0 G H : Hp} {σ : L2.St} {x : Str} {F : Sl → NE} {d : D} {v : V} {i : Nat} (he : Env C A G0 H0 u G H E σ) (hp : Spl E x F) (hi : C.N[i]? = some x) (hl : σ.length = C.N.length) (nd : C.N.Nodup) (r : Rp C.K G d v) :
    Env C A G0 H0 u G H (F (.dat d)) (σ.set i (some v)) := by
  obtain ⟨h1, h2, _, h4⟩ := hp.spec (.dat d)
  obtain ⟨α, e1, e2⟩ := he.ent
  have nd' : ((F (.dat d)).map (·.1)).Nodup := by rw [h1]; exact he.nd
  have key : ∀ y s, (y, s) ∈ F (.dat d) → (y = x ∧ s = .dat d) ∨ (y ≠ x ∧ (y, s) ∈ E) := fun y s m => by
    by_cases z : y = x
    · subst z; exact .inl ⟨rfl, nd_slot nd' m h2⟩
    · rcases h4 _ m with w | w
      · exact absurd (Prod.mk.inj w).1 z
      · exact .inr ⟨z, w⟩
  refine ⟨he.gr, he.ln, he.st, nd', α, fun y s m => ?_, fun y z s t m1 m2 o1 o2 => ?_⟩
  · rcases key y s m with ⟨rfl, rfl⟩ | ⟨ne, m'⟩
    · refine ⟨i, hi, v, ?_, r⟩
      rw [List.getElem?_set_self]
      rw [hl]
      exact (List.getElem?_eq_some_iff.mp hi).1
    · obtain ⟨j, f1, f2⟩ := e1 y s m'
      refine ⟨j, f1, ?_⟩
      have : i ≠ j := fun q => ne (by subst q; rw [hi] at f1; exact (Option.some.inj f1).symm)
      rw [List.getElem?_set_ne this]
      exact f2
  · rcases key y s m1 with ⟨rfl, rfl⟩ | ⟨_, m1'⟩
    · exact o1.elim
    · rcases key z t m2 with ⟨rfl, rfl⟩ | ⟨_, m2'⟩
      · exact o2.elim
      · exact e2 y z s t m1' m2' o1 o2
theorem Env.ix {G0 : Beg} {H0 G H : Hp} {σ : L2.St} {x : Str} {F : Sl → NE} (he : Env C A G0 H0 u G H E σ) (hp : Spl E x F) : ∃ i : Nat, C.N[i]? = some x := by
  obtain ⟨_, _, ⟨t, h3⟩, _⟩ := hp.spec .un
  obtain ⟨α, e1, _⟩ := he.ent
  obtain ⟨i, h, _⟩ := e1 x t h3
  exact ⟨i, h⟩
theorem s_set {x : Str} {kd : NameKind} {F : Sl → NE} (hx : Spl E x F) (hn : Nm C.nm x kd) (hk : LocK kd) (h : EvK C A e E u fun d u' => P.nx (F (.dat d)) u') (hs : ∀ env, swapsWith e (some (.Name x p)) pos.line env = pure false := by intro _; rfl) :
    StK C A (.Assign [.Name x p] e pos) E u P := by
  intro G0 H0 G H σ Ds he S X pins s hX I
  obtain ⟨k, nm, rfl, hO, hK⟩ := id hX
  obtain ⟨i, hi⟩ := he.ix hx
  refine (ps_set (i := i) (pos' := p) hK.nd hi (hn.loc hO hk) (pe_of hX e) (hs X.env) (hn.fn hO hk)).run pins s σ H Ds I ?_
  refine h G0 H0 G H σ he _ fun d u' v G' H' q g st r => ?_
  exact S.nx _ u' G' H' _ q ((he.go g st).put hx hi I.len hK.nd r)
/-- a slot takes a new list of its own -/
theorem Env.putOwn {G0 : Beg} {H0 G H : Hp} {σ : L2.St} {x : Str} {F : Sl → NE} {l : List D} {q : Addr} {xs : List V} {i : Nat} (he : Env C A G0 H0 u G H E σ) (hp : Spl E x F) (hi : C.N[i]? = some x) (hl : σ.length = C.N.length) (nd : C.N.Nodup)
    (hG : G q = none) (h0 : H0 q = none) (hf : ¬ A.foot u q) (hH : H q = some (.lst xs)) (r : RpA C.K G l xs) (hnew : ∀ (y : Str) (s : Sl) (a : Addr), (y, s) ∈ E → y ≠ x → s.isOwn → (∀ j : Nat, C.N[j]? = some y → σ[j]? = some (some (.ref a))) → a ≠ q) :
    Env C A G0 H0 u G H (F (.own l)) (σ.set i (some (.ref q))) := by
  obtain ⟨h1, h2, _, h4⟩ := hp.spec (.own l)
  obtain ⟨α, e1, e2⟩ := he.ent
  have nd' : ((F (.own l)).map (·.1)).Nodup := by rw [h1]; exact he.nd
  have key : ∀ y s, (y, s) ∈ F (.own l) → (y = x ∧ s = .own l) ∨ (y ≠ x ∧ (y, s) ∈ E) := fun y s m => by
    by_cases z : y = x
    · subst z; exact .inl ⟨rfl, nd_slot nd' m h2⟩
    · rcases h4 _ m with w | w
      · exact absurd (Prod.mk.inj w).1 z
      · exact .inr ⟨z, w⟩
  have ixu : ∀ {y : Str} {j k : Nat}, C.N[j]? = some y → C.N[k]? = some y → j = k := fun a b => nodup_ix nd a b
  have far : ∀ y s, (y, s) ∈ E → y ≠ x → s.isOwn → α y ≠ q := fun y s m ne o => by
    obtain ⟨j, f1, f2⟩ := e1 y s m
    refine hnew y s (α y) m ne o fun j' hj' => ?_
    obtain rfl := ixu f1 hj'
    cases s with
    | own _ => exact f2.1
    | ownD _ => exact f2.1
    | ownX _ => exact f2.1
    | _ => exact o.elim
  refine ⟨he.gr, he.ln, he.st, nd', fun y => if y = x then q else α y, fun y s m => ?_, fun y z s t m1 m2 o1 o2 ee => ?_⟩
  · rcases key y s m with ⟨rfl, rfl⟩ | ⟨ne, m'⟩
    · refine ⟨i, hi, ?_⟩
      dsimp only
      rw [if_pos rfl]
      refine ⟨?_, hG, h0, hf, xs, hH, r⟩
      rw [List.getElem?_set_self]
      rw [hl]
      exact (List.getElem?_eq_some_iff.mp hi).1
    · obtain ⟨j, f1, f2⟩ := e1 y s m'
      refine ⟨j, f1, ?_⟩
      have : i ≠ j := fun q => ne (by subst q; rw [hi] at f1; exact (Option.some.inj f1).symm)
      dsimp only
      rw [List.getElem?_set_ne this, if_neg ne]
      exact f2
  · dsimp only at ee
    rcases key y s m1 with ⟨rfl, rfl⟩ | ⟨n1, m1'⟩
    · rcases key z t m2 with ⟨rfl, rfl⟩ | ⟨n2, m2'⟩
      · rfl
      · rw [if_pos rfl, if_neg n2] at ee
        exact absurd ee.symm (far z t m2' n2 o2)
    · rcases key z t m2 with ⟨rfl, rfl⟩ | ⟨n2, m2'⟩
      · rw [if_pos rfl, if_neg n1] at ee
        exact absurd ee (far y s m1' n1 o1)
      · rw [if_neg n1, if_neg n2] at ee
        exact e2 y z s t m1' m2' o1 o2 ee
theorem s_setN {x : Str} {kd : NameKind} {F : Sl → NE} (hx : Spl E x F) (hn : Nm C.nm x kd) (hk : LocK kd) (h : EvN C A e E u fun l u' => P.nx (F (.own l)) u') (hs : ∀ env, swapsWith e (some (.Name x p)) pos.line env = pure false := by intro _; rfl) :
    StK C A (.Assign [.Name x p] e pos) E u P := by
  intro G0 H0 G H σ Ds he S X pins s hX I
  obtain ⟨k, nm, rfl, hO, hK⟩ := id hX
  obtain ⟨i, hi⟩ := he.ix hx
  refine (ps_set (i := i) (pos' := p) hK.nd hi (hn.loc hO hk) (pe_of hX e) (hs X.env) (hn.fn hO hk)).run pins s σ H Ds I ?_
  refine h G0 H0 G H σ he _ fun l u' q xs G' H' k g st z1 z2 z3 z4 r => ?_
  have he' := he.go g st
  refine S.nx _ u' G' H' _ k (he'.putOwn hx hi I.len hK.nd z2 ?_ z3 z4 r ?_)
  · cases w : H0 q with
    | none => rfl
    | some o => exact absurd z1 (he.gr.th q (by rw [w]; simp))
  · intro y s a m ne o ha e
    subst e
    obtain ⟨α, e1, _⟩ := he.ent
    obtain ⟨j, f1, f2⟩ := e1 y s m
    have hj := ha j f1
    have key : ∀ {o : HO}, σ[j]? = some (some (V.ref (α y))) → H (α y) = some o → False := fun {o} w1 w2 => by
      rw [hj] at w1
      have w3 := Option.some.inj (Option.some.inj w1)
      have w4 : a = α y := by injection w3
      rw [← w4, z1] at w2
      cases w2
    cases s with
    | own _ => obtain ⟨w1, _, _, _, _, w2, _⟩ := f2; exact key w1 w2
    | ownD _ => obtain ⟨w1, _, _, _, _, w2, _⟩ := f2; exact key w1 w2
    | ownX _ => obtain ⟨w1, _, _, _, _, w2, _⟩ := f2; exact key w1 w2
    | _ => exact o.elim
/-- forgetting -/
def Fg : NE → NE → Prop
  | [], [] => True
  | p :: E, q :: F => (p = q ∨ q = (p.1, Sl.un)) ∧ Fg E F
  | _, _ => False
theorem Fg.refl : ∀ E : NE, Fg E E
  | [] => trivial
  | p :: E => ⟨.inl rfl, Fg.refl E⟩
theorem Fg.mem : ∀ {E F : NE}, Fg E F → ∀ x s, (x, s) ∈ F → (x, s) ∈ E ∨ s = .un ∧ ∃ t, (x, t) ∈ E
  | [], [], _, _, _, m => by cases m
  | p :: E, q :: F, h, x, s, m => by
    rcases List.mem_cons.mp m with e | m'
    · rcases h.1 with w | w
      · subst w; subst e; exact .inl List.mem_cons_self
      · rw [w] at e
        obtain ⟨e1, e2⟩ := Prod.mk.inj e
        subst e1 e2
        exact .inr ⟨rfl, p.2, List.mem_cons_self⟩
    · rcases Fg.mem h.2 x s m' with w | ⟨w, t, v⟩
      · exact .inl (List.mem_cons_of_mem _ w)
      · exact .inr ⟨w, t, List.mem_cons_of_mem _ v⟩
  | [], _ :: _, h, _, _, _ => h.elim
  | _ :: _, [], h, _, _, _ => h.elim
theorem Fg.names : ∀ {E F : NE}, Fg E F → F.map (·.1) = E.map (·.1)
  | [], [], _ => rfl
  | p :: E, q :: F, h => by
    rw [List.map_cons, List.map_cons, Fg.names h.2]
    rcases h.1 with w | w <;> rw [w]
  | [], _ :: _, h => h.elim
  | _ :: _, [], h => h.elim
theorem Env.fg {G0 : Beg} {H0 G H : Hp} {σ : L2.St} {F : NE} (he : Env C A G0 H0 u G H E σ) (h : Fg E F) : Env C A G0 H0 u G H F σ := by
  obtain ⟨α, e1, e2⟩ := he.ent
  refine ⟨he.gr, he.ln, he.st, by rw [h.names]; exact he.nd, α, fun x s m => ?_, fun x y s t m1 m2 o1 o2 => ?_⟩
  · rcases h.mem x s m with w | ⟨w, t, v⟩
    · exact e1 x s w
    · subst w
      obtain ⟨i, q, _⟩ := e1 x t v
      exact ⟨i, q, trivial⟩
  · rcases h.mem x s m1 with w1 | ⟨w1, _⟩
    · rcases h.mem y t m2 with w2 | ⟨w2, _⟩
      · exact e2 x y s t w1 w2 o1 o2
      · subst w2; exact o2.elim
    · subst w1; exact o1.elim
end
end L3
namespace L3
open PySem PySem.Spec PyProof.Rows L2
/-! ### what is walked -/
/-- J hands out the data ds one after another, as long as G goes on -/
structure Yields (K : PySem.W.Frag) (G : Hp) (J : It) (ds : List D) : Prop where
  go : ∀ (i : Nat) (G' H' : Hp), Kn G G' → Kn G' H' → i < ds.length → J.go i H'
  yld : ∀ (i : Nat) (G' H' : Hp) (x : V) (H2 : Hp), Kn G G' → Kn G' H' → i < ds.length → J.yld i H' x H2 → ∃ d G2, ds[i]? = some d ∧ Grow noFoot noFoot G' H' G2 H2 ∧ Rp K G2 d x
  stop : ∀ (i : Nat) (G' H' : Hp), Kn G G' → Kn G' H' → ds.length ≤ i → J.stop i H'
def rI (C : SC) (tg iter : Expr) : TI := fun σ H R => ∀ X pins s, Has C X → Inv X pins σ H s →
  wpAny (model X.prog X.w) X.A (eval iter X.env) (fun v s1 => wpAny (model X.prog X.w) X.A (pyIter v) (PIE X pins σ tg R) X.xe s1) X.xe s
theorem pi_of {C : SC} {X : Cx} (h : Has C X) (tg iter : Expr) : PI X tg iter (rI C tg iter) := ⟨fun pins s σ H R I q => q X pins s h I⟩
def EvI (C : SC) (A : Amb) (tg iter : Expr) (E : NE) (u : A.U) (Θ : List D → A.U → Prop) : Prop :=
  ∀ G0 H0 G H σ, Env C A G0 H0 u G H E σ → ∀ R : It → Hp → Prop, (∀ ds u' J G' H', Θ ds u' → Grow (A.foot u) (A.foot u') G H G' H' → A.st u' G' H' → Yields C.K G' J ds → R J H') → rI C tg iter σ H R
def rG (C : SC) (tg : Expr) : TG := fun v σ H Q => ∀ X pins s u, Has C X → Inv X pins σ H s → RelV v u → wpAny (model X.prog X.w) X.A (assign tg X.env u) (fun _ s' => ∃ σ' H', Inv X pins σ' H' s' ∧ Q σ' H') X.xe s
theorem pg_of {C : SC} {X : Cx} (h : Has C X) (tg : Expr) : PG X tg (rG C tg) := ⟨fun pins s σ H v u Q I r q => q X pins s u h I r⟩
/-- the slots that differ from σ to σ' are among those of the names xs -/
def OnlyN (C : SC) (xs : List Str) (σ σ' : L2.St) : Prop := σ'.length = σ.length ∧ ∀ (i : Nat) (x : Str), C.N[i]? = some x → x ∉ xs → σ'[i]? = σ[i]?
theorem OnlyN.refl {C : SC} {xs : List Str} {σ : L2.St} : OnlyN C xs σ σ := ⟨rfl, fun _ _ _ _ => rfl⟩
/-- a target takes a datum; xs: the names stored -/
def TgK (C : SC) (A : Amb) (tg : Expr) (d : D) (E : NE) (u : A.U) (xs : List Str) (Θ : NE → Prop) : Prop :=
  ∀ G0 H0 G H σ v, Env C A G0 H0 u G H E σ → Rp C.K G d v → ∀ Q : L2.St → Hp → Prop, (∀ E' σ', Θ E' → Env C A G0 H0 u G H E' σ' → OnlyN C xs σ σ' → Q σ' H) → rG C tg v σ H Q
def TgsK (C : SC) (A : Amb) (tgs : List Expr) (ds : List D) (E : NE) (u : A.U) (xs : List Str) (Θ : NE → Prop) : Prop :=
  ∀ G0 H0 G H σ vs, Env C A G0 H0 u G H E σ → RpA C.K G ds vs → ∀ Q : L2.St → Hp → Prop, (∀ E' σ', Θ E' → Env C A G0 H0 u G H E' σ' → OnlyN C xs σ σ' → Q σ' H) →
    ∀ X pins s us, Has C X → Inv X pins σ H s → Vals vs us → wpAny (model X.prog X.w) X.A (assignInOrder ((assignEach tgs X.env).map (·.2)) us) (fun _ s' => ∃ σ' H', Inv X pins σ' H' s' ∧ Q σ' H') X.xe s
section
variable {C : SC} {A : Amb} {E : NE} {u : A.U} {pos p : Pos} {a b c e tg iter elt : Expr} {P : Post A} {st : Stmt} {sts rest body : List Stmt} {Θ : NE → Prop} {xs ys : List Str}
theorem OnlyN.trans {σ σ1 σ2 : L2.St} (h : OnlyN C xs σ σ1) (k : OnlyN C ys σ1 σ2) : OnlyN C (xs ++ ys) σ σ2 :=
  ⟨k.1.trans h.1, fun i x e n => (k.2 i x e fun z => n (List.mem_append_right _ z)).trans (h.2 i x e fun z => n (List.mem_append_left _ z))⟩
theorem tg_name {x : Str} {kd : NameKind} {F : Sl → NE} {d : D} (hx : Spl E x F) (hn : Nm C.nm x kd) (hk : LocK kd) (q : Θ (F (.dat d))) : TgK C A (.Name x p) d E u [x] Θ := by
  intro G0 H0 G H σ v he r Q k X pins s w hX I rw'
  obtain ⟨j, nm, rfl, hO, hK⟩ := id hX
  obtain ⟨i, hi⟩ := he.ix hx
  refine (pg_name (i := i) hK.nd hi (hn.loc hO hk) (hn.fn hO hk)).run pins s σ H v w Q I rw' ?_
  refine k _ _ q (he.put hx hi I.len hK.nd r) ⟨List.length_set, fun j y e n => ?_⟩
  have : i ≠ j := fun z => n (by subst z; obtain rfl := Option.some.inj (hi.symm.trans e); exact List.mem_cons_self)
  exact List.getElem?_set_ne this
theorem tgs_nil (q : Θ E) : TgsK C A [] [] E u [] Θ := by
  intro G0 H0 G H σ vs he r Q k X pins s us hX I rw'
  rw [RpA.nil_iff] at r
  subst r
  exact pgs_nil.run pins s σ H [] us Q I rw' ⟨rfl, k E σ q he .refl⟩
theorem tgs_cons {t : Expr} {ts : List Expr} {d : D} {ds : List D} (h : TgK C A t d E u xs fun E' => TgsK C A ts ds E' u ys Θ)
    (hc : ∀ X, Has C X → ∀ (g : TG) (gs : TGs), PG X t g → PGs X ts gs → PGs X (t :: ts) (gCons g gs)) : TgsK C A (t :: ts) (d :: ds) E u (xs ++ ys) Θ := by
  intro G0 H0 G H σ vs he r Q k X pins s us hX I rw'
  rw [RpA.cons_iff] at r
  obtain ⟨v, vr, rfl, r1, r2⟩ := r
  refine (hc X hX (rG C t) (fun vs σ H Q => ∀ pins s us, Inv X pins σ H s → Vals vs us → wpAny (model X.prog X.w) X.A (assignInOrder ((assignEach ts X.env).map (·.2)) us) (fun _ s' => ∃ σ' H', Inv X pins σ' H' s' ∧ Q σ' H') X.xe s)
    (pg_of hX t) ⟨fun pins s σ H vs us Q I r q => q pins s us I r⟩).run pins s σ H _ us Q I rw' ⟨v, vr, rfl, ?_⟩
  refine h G0 H0 G H σ v he r1 _ fun E1 σ1 h1 he1 o1 pins' s' us' I' r' => ?_
  exact h1 G0 H0 G H σ1 vr he1 r2 Q (fun E2 σ2 q2 he2 o2 => k E2 σ2 q2 he2 (o1.trans o2)) X pins' s' us' hX I' r'
theorem tg_tup [hh : Cold C] {ts : List Expr} {j : Nat} {ds : List D} (h : TgsK C A ts ds E u xs Θ) (hl : ds.length = ts.length) (hn : ∀ env, (assignEach ts env).length = ts.length := by intro _; rfl) (hst : ∀ env, (assignEach ts env).findIdx? (·.1) = none := by intro _; rfl) :
    TgK C A (.Tuple ts j pos) (.tup ds) E u xs Θ := by
  intro G0 H0 G H σ v he r Q k X pins s w hX I rw'
  obtain ⟨n, nm, e, hO, hK⟩ := id hX
  simp only [Rp] at r
  obtain ⟨ad, vs, rfl, r1, r2⟩ := r
  refine (pg_tup (n := ts.length) (hK.calm (by have z := hh.h; rw [e] at z; exact z)) (t := fun vs σ H Q => ∀ pins s us, Inv X pins σ H s → Vals vs us → wpAny (model X.prog X.w) X.A (assignInOrder ((assignEach ts X.env).map (·.2)) us) (fun _ s' => ∃ σ' H', Inv X pins σ' H' s' ∧ Q σ' H') X.xe s)
    ⟨fun pins s σ H vs us Q I r q => q pins s us I r⟩ (hn X.env) (hst X.env)).run pins s σ H _ w Q I rw' ⟨ad, vs, rfl, ?_, by rw [r2.len]; exact hl, fun pins' s' us I' r' => ?_⟩
  · subst e; exact Kn.sqT he.kn r1
  · exact h G0 H0 G H σ vs he r2 Q k X pins' s' us hX I' r'
/-- a, b = e -/
theorem s_unp {ts : List Expr} {j : Nat} (h : EvK C A e E u fun d u' => TgK C A (.Tuple ts j p) d E u' xs fun E' => P.nx E' u') (hs : ∀ env, swapsWithSole [.Tuple ts j p] e pos.line env = pure false := by intro _; rfl)
    (hw : ∀ X, Has C X → swappedStores [.Tuple ts j p] e X.env = pure none := by intro _ _; rfl) : StK C A (.Assign [.Tuple ts j p] e pos) E u P := by
  refine StK.of _ (fun X hX => ps_asg (pe_of hX e) (pg_of hX (.Tuple ts j p)) (hs X.env) (hw X hX)) fun G0 H0 G H σ Ds he S => ?_
  refine h G0 H0 G H σ he _ fun d u' v G' H' h1 g st r => ?_
  exact h1 G0 H0 G' H' σ v (he.go g st) r _ fun E' σ' q he' _ => S.nx E' u' G' H' σ' q he'
/-! ### the iterables -/
theorem y_list {K : PySem.W.Frag} {G : Hp} {a : Addr} {xs : List V} {ds : List D} (h : G a = some (.lst xs)) (r : RpA K G ds xs) : Yields K G (Itl K a) ds where
  go := fun i G' H' k1 k2 hi => by
    obtain ⟨x, hx, _⟩ := r.getD (List.getElem?_eq_getElem hi)
    exact ⟨xs, x, SqL.of (k2 _ _ (k1 _ _ h)), hx⟩
  yld := fun i G' H' x H2 k1 k2 hi y => by
    obtain ⟨rfl, y⟩ := y
    obtain ⟨d, hd, rd⟩ := r.get (y xs (SqL.of (k2 _ _ (k1 _ _ h))))
    exact ⟨d, G', hd, Grow.refl k2, rd.mono k1⟩
  stop := fun i G' H' k1 k2 hi => ⟨xs, SqL.of (k2 _ _ (k1 _ _ h)), by rw [r.len]; exact hi⟩
theorem y_tup {K : PySem.W.Frag} {G : Hp} {a : Addr} {xs : List V} {ds : List D} (h : SqT K G a xs) (r : RpA K G ds xs) : Yields K G (Itt K a) ds where
  go := fun i G' H' k1 k2 hi => by
    obtain ⟨x, hx, _⟩ := r.getD (List.getElem?_eq_getElem hi)
    exact ⟨xs, x, k2.sqT (k1.sqT h), hx⟩
  yld := fun i G' H' x H2 k1 k2 hi y => by
    obtain ⟨rfl, y⟩ := y
    obtain ⟨d, hd, rd⟩ := r.get (y xs (k2.sqT (k1.sqT h)))
    exact ⟨d, G', hd, Grow.refl k2, rd.mono k1⟩
  stop := fun i G' H' k1 k2 hi => ⟨xs, k2.sqT (k1.sqT h), by rw [r.len]; exact hi⟩
/-- the signs of a text -/
def sgs (s : Str) : List D := s.cps.toList.map fun c => .str ⟨#[c]⟩
theorem y_str {K : PySem.W.Frag} {G : Hp} {x : Str} : Yields K G (Its x) (sgs x) where
  go := fun i G' H' k1 k2 hi => by show i < x.cps.size; simpa [sgs] using hi
  yld := fun i G' H' v H2 k1 k2 hi y => by
    obtain ⟨rfl, c, hc, rfl⟩ := y
    refine ⟨.str ⟨#[c]⟩, G', ?_, Grow.refl k2, by simp only [Rp]⟩
    unfold sgs
    rw [List.getElem?_map]
    have : x.cps.toList[i]? = some c := by simpa using hc
    rw [this]; rfl
  stop := fun i G' H' k1 k2 hi => by show x.cps.size ≤ i; simpa [sgs] using hi
def rgs (lo : Int) (n : Nat) : List D := (List.range n).map fun i : Nat => .int (lo + (i : Int))
theorem y_rng {K : PySem.W.Frag} {G : Hp} {lo : Int} {n : Nat} : Yields K G (Itr lo n) (rgs lo n) where
  go := fun i G' H' k1 k2 hi => by show i < n; simpa [rgs] using hi
  yld := fun i G' H' v H2 k1 k2 hi y => by
    obtain ⟨rfl, rfl⟩ := y
    refine ⟨.int (lo + i), G', ?_, Grow.refl k2, by simp only [Rp]⟩
    unfold rgs at hi ⊢
    rw [List.length_map, List.length_range] at hi
    rw [List.getElem?_map, List.getElem?_range hi]; rfl
  stop := fun i G' H' k1 k2 hi => by show n ≤ i; simpa [rgs] using hi
/-- what a datum hands out -/
def itW (d : D) (Θ : List D → Prop) : Prop := match d with
  | .lst l => Θ l
  | .tup l => Θ l
  | .str s => Θ (sgs s)
  | _ => False
theorem i_val {Θ : List D → A.U → Prop} (h : EvK C A iter E u fun d u' => itW d fun ds => Θ ds u') : EvI C A tg iter E u Θ := by
  intro G0 H0 G H σ he R k X pins s hX I
  obtain ⟨j, nm, rfl, hO, hK⟩ := id hX
  refine thn ((pe_of hX iter).run pins s σ H (fun v H1 => ∃ d u' G1, itW d (fun ds => Θ ds u') ∧ Grow (A.foot u) (A.foot u') G H G1 H1 ∧ A.st u' G1 H1 ∧ Rp X.K G1 d v) I (h G0 H0 G H σ he _ fun d u' v G1 H1 p g st r => ⟨d, u', G1, p, g, st, r⟩)) fun v s1 ⟨x, H1, I1, r1, d, u', G1, p, g, st, r⟩ => ?_
  cases d with
  | lst l =>
    simp only [Rp] at r
    obtain ⟨ad, vs, rfl, z1, z2⟩ := r
    cases r1
    obtain ⟨its, rv, pl, hz⟩ := I1.list (SqL.of (g.gh _ _ z1))
    refine wpAny_pyIter_list pl.isList ?_
    refine ⟨s1.heap.objs.size, [s1.heap.objs.size], _, _, H1, rfl, I1.kept (t' := s1.toks) fun b o e => Heap.get?_push_of_some _ e, turn_list ad _, ⟨_, Heap.get?_push_size _ rfl, rfl, rfl⟩, fun b hb => ?_, k _ u' _ G1 H1 p g st (y_list z1 z2)⟩
    obtain rfl : b = s1.heap.objs.size := by simpa using hb
    exact I1.fpOk (Nat.le_refl _) (I1.hok.fresh (Nat.le_refl _))
  | tup l =>
    simp only [Rp] at r
    obtain ⟨ad, vs, rfl, z1, z2⟩ := r
    cases r1
    obtain ⟨its, rv, pl, hz⟩ := I1.tuple (g.gh.sqT z1)
    refine wpAny_pyIter_tuple (show s1.heap.IsTuple ad its.toArray from pl) ?_
    refine ⟨s1.heap.objs.size, [s1.heap.objs.size], _, _, H1, rfl, I1.kept (t' := s1.toks) fun b o e => Heap.get?_push_of_some _ e, turn_tuple ad _, ⟨_, Heap.get?_push_size _ rfl, rfl, rfl⟩, fun b hb => ?_, k _ u' _ G1 H1 p g st (y_tup z1 z2)⟩
    obtain rfl : b = s1.heap.objs.size := by simpa using hb
    exact I1.fpOk (Nat.le_refl _) (I1.hok.fresh (Nat.le_refl _))
  | str t =>
    simp only [Rp] at r
    subst r
    obtain ⟨tk, rfl⟩ := r1
    have q : R (Its t) H1 := k _ u' _ G1 H1 p g st y_str
    cases ha : t.cps.all (· < 128)
    · exact wpAny_pyIter_wide ha (pi_one (tk := s1.toks) I1 _ (turn_str _ t tk "str_iterator" (.inr rfl)) ⟨_, Heap.get?_push_size _ rfl, rfl, rfl⟩ q)
    · exact wpAny_pyIter_ascii ha (pi_one (tk := s1.toks) I1 _ (turn_str _ t tk "str_ascii_iterator" (.inl rfl)) ⟨_, Heap.get?_push_size _ rfl, rfl, rfl⟩ q)
  | _ => exact p.elim
theorem i_rng1 {Θ : List D → A.U → Prop} {q : Pos} (hn : Nm C.nm "range" .globalImplicit) (hm : C.mg "range" = none) (h : EvK C A a E u fun d u' => ∃ n : Int, d = .int n ∧ -(2 ^ 62) ≤ n ∧ n < 2 ^ 62 ∧ Θ (rgs 0 n.toNat) u')
    (hs : ∀ env, starEach [a] env = [(false, eval a env)] := by intro _; rfl) : EvI C A tg (.Call (.Name "range" q) [a] [] pos) E u Θ := by
  intro G0 H0 G H σ he R k X pins s hX I
  obtain ⟨j, nm, rfl, hO, hK⟩ := id hX
  refine (pi_range1 (hn.gl hO) hm (pa_cons (pe_of hX a) pa_nil (hs X.env)) (hs X.env)).run pins s σ H R I ?_
  refine h G0 H0 G H σ he _ fun d u' v G1 H1 ⟨n, e, l1, l2, p⟩ g st r => ?_
  subst e
  simp only [Rp] at r
  subst r
  exact ⟨n, rfl, l1, l2, k _ u' _ G1 H1 p g st y_rng⟩
theorem i_rng2 {Θ : List D → A.U → Prop} {q : Pos} (hn : Nm C.nm "range" .globalImplicit) (hm : C.mg "range" = none)
    (h : EvK C A a E u fun d u1 => EvK C A b E u1 fun d2 u' => ∃ m n : Int, d = .int m ∧ d2 = .int n ∧ (-(2 ^ 62) ≤ m ∧ m < 2 ^ 62 ∧ -(2 ^ 62) ≤ n ∧ n < 2 ^ 62) ∧ Θ (rgs m (n - m).toNat) u')
    (hs : ∀ env, starEach [a, b] env = [(false, eval a env), (false, eval b env)] := by intro _; rfl) (hs2 : ∀ env, starEach [b] env = [(false, eval b env)] := by intro _; rfl) : EvI C A tg (.Call (.Name "range" q) [a, b] [] pos) E u Θ := by
  intro G0 H0 G H σ he R k X pins s hX I
  obtain ⟨j, nm, rfl, hO, hK⟩ := id hX
  refine (pi_range2 (hn.gl hO) hm (pa_cons (pe_of hX a) (pa_cons (pe_of hX b) pa_nil (hs2 X.env)) (by rw [hs, hs2])) (hs X.env) (hs2 X.env)).run pins s σ H R I ?_
  refine h G0 H0 G H σ he _ fun d u1 v G1 H1 p1 g1 st1 r1 => ?_
  refine p1 G0 H0 G1 H1 σ (he.go g1 st1) _ fun d2 u' v2 G2 H2 ⟨m, n, e1, e2, l, p⟩ g st r => ?_
  subst e1 e2
  simp only [Rp] at r r1
  subst r r1
  exact ⟨m, n, rfl, l, k _ u' _ G2 H2 p (g1.trans g) st y_rng⟩
/-! ### for -/
theorem s_for [hh : Cold C] (h : EvI C A tg iter E u fun ds u1 => ∃ I : Nat → NE → A.U → Prop, I 0 E u1 ∧
      (∀ k d E' u', ds[k]? = some d → I k E' u' → TgK C A tg d E' u' xs fun E2 => RunK C A body E2 u' { P with nx := I (k + 1), ct := I (k + 1), bk := P.nx }) ∧ ∀ E' u', I ds.length E' u' → P.nx E' u')
    (hs : ∀ env x, foldedSetIterable iter env x = pure x := by intro _ _; rfl) : StK C A (.For tg iter body [] pos) E u P := by
  intro G0 H0 G H σ Ds he S X pins s hX I
  obtain ⟨j, nm, e, hO, hK⟩ := id hX
  refine (ps_for hK.pass (hK.calm (by have z := hh.h; rw [e] at z; exact z)) (pi_of hX tg iter) (pg_of hX tg) (pss_of hX body) (hs X.env)).run pins s σ H Ds I ?_
  refine h G0 H0 G H σ he _ fun ds u1 J G1 H1 ⟨Iv, i0, step, fin⟩ g st y => ?_
  have he1 := he.go g st
  have S1 := S.up he1.gr he.ln
  refine ⟨fun i m σ H => ∃ u' E' G', m = ds.length - i ∧ i ≤ ds.length ∧ Iv i E' u' ∧ Env C A ⟨G1, G0.foot⟩ H0 u' G' H E' σ, ⟨ds.length, u1, E, G1, by simp, Nat.zero_le _, i0, he1.up he1.gr (Kn.refl _)⟩, ?_⟩
  rintro i m σ2 H2 ⟨u', E', G', rfl, hi, iv, he2⟩
  by_cases hlt : i < ds.length
  · refine .inr ⟨y.go i G' H2 he2.gr.gg he2.kn hlt, fun σ' H' => ∃ u' E' G', Iv (i + 1) E' u' ∧ Env C A ⟨G1, G0.foot⟩ H0 u' G' H' E' σ', fun σ' H' ⟨u3, E3, G3, iv3, he3⟩ => ⟨ds.length - (i + 1), by omega, u3, E3, G3, rfl, hlt, iv3, he3⟩, fun x H3 hy => ?_⟩
    obtain ⟨d, G3, hd, g3, r3⟩ := y.yld i G' H2 x H3 he2.gr.gg he2.kn hlt hy
    have he3 := he2.go g3.weak (A.grow he2.st g3)
    refine step i d E' u' hd iv ⟨G1, G0.foot⟩ H0 G3 H3 σ2 x he3 r3 _ fun E4 σ4 q4 he4 _ => ?_
    refine q4 ⟨G1, G0.foot⟩ H0 G3 H3 σ4 _ he4 ⟨fun E5 u5 G5 H5 σ5 p5 he5 => ⟨u5, E5, G5, p5, he5⟩, fun E5 u5 G5 H5 σ5 p5 he5 => S1.nx E5 u5 G5 H5 σ5 p5 he5, fun E5 u5 G5 H5 σ5 p5 he5 => ⟨u5, E5, G5, p5, he5⟩, S1.rt⟩
  · obtain rfl : i = ds.length := by omega
    exact .inl ⟨y.stop _ G' H2 he2.gr.gg he2.kn (Nat.le_refl _), S1.nx E' u' G' H2 σ2 (fin E' u' iv) he2⟩
/-! ### while -/
end
end L3
namespace L3
open PySem PySem.Spec PyProof.Rows L2
/-! ### comprehensions -/
def blkB (N : List Str) (nm : List (Str × NameKind)) (sc : Scope) (xs : List Str) : Bool :=
  (match sc.kind with | .function => true | _ => false) && (sc.names.all fun y => decide (sc.names.lookup y.1 = some y.2)) &&
  (sc.names.all fun y => match y.2 with
    | .free => decide (nm.lookup y.1 = some .cell) || decide (nm.lookup y.1 = some .free)
    | .local => decide (y.1 ∈ xs) || decide (y.1 ∉ N)
    | .cell => decide (y.1 ∈ xs) || decide (y.1 ∉ N)
    | _ => true)
theorem blkB.ok {N : List Str} {sc scope : Scope} {nm : List (Str × NameKind)} {xs : List Str} {own : List (Str × Nat)} (h : blkB N nm scope xs = true) (hO : NmOk nm sc.names) (ho : own.map (·.1) = xs) (hi : ∀ p ∈ own, N[p.2]? = some p.1) : BlkOk N sc scope own := by
  unfold blkB at h
  simp only [Bool.and_eq_true, List.all_eq_true, decide_eq_true_eq] at h
  obtain ⟨⟨h1, h2⟩, h4⟩ := h
  refine ⟨?_, h2, hi, fun y hy e => ?_, fun y hy e => ?_⟩
  · split at h1
    · assumption
    · cases h1
  · have q := h4 y hy
    simp only [e, Bool.or_eq_true, decide_eq_true_eq] at q
    rcases q with q | q
    · rcases hO _ _ (PySem.mem_of_lookup q) with z | ⟨z, _⟩
      · exact .inl z
      · cases z
    · rcases hO _ _ (PySem.mem_of_lookup q) with z | ⟨_, z⟩
      · exact .inr z
      · exact .inl z
  · have q := h4 y hy
    rw [ho]
    rcases e with e | e <;> (simp only [e, Bool.or_eq_true, decide_eq_true_eq] at q; exact q)
abbrev SC.blk (C : SC) (scope : Scope) : SC := ⟨C.P, C.w, C.K, C.mg, C.base, C.N, ⟨scope.names, XS.no, false⟩, C.k⟩
theorem lookup_map_key {f : Str × NameKind → Str × NameKind} (hf : ∀ p, (f p).1 = p.1) {x : Str} {k : NameKind} : ∀ {names : List (Str × NameKind)}, names.lookup x = some k → (names.map f).lookup x = some (f (x, k)).2
  | [], h => by cases h
  | (n, k0) :: r, h => by
    have ih := @lookup_map_key f hf x k r
    show List.lookup x (f (n, k0) :: r.map f) = _
    have e1 : (f (n, k0)).1 = n := hf (n, k0)
    have e2 : f (n, k0) = (n, (f (n, k0)).2) := Prod.ext e1 rfl
    rw [e2]
    cases hx : x == n with
    | true =>
      simp only [List.lookup_cons, hx] at h ⊢
      have : x = n := by simpa using hx
      subst this
      cases h
      rfl
    | false =>
      simp only [List.lookup_cons, hx] at h ⊢
      exact ih h
theorem Has.blk {C : SC} [hh : Cold C] {X : Cx} {scope : Scope} {own : List (Str × Nat)} (h : Has C X) (ok : BlkOk X.N X.env.scope scope own) (s : Shared) (H : Hp) (D : Addr) (cl : List (Str × Addr)) (fp : List Addr) : Has (C.blk scope) (X.blk s H scope (compEnvC scope cl D X.env) fp) := by
  obtain ⟨k, nm, rfl, hO, hK⟩ := h
  have rel : ∀ {x : Str} {kd : NameKind}, scope.names.lookup x = some kd → (relabel scope X.env).names.lookup x = some kd ∨ kd = .free ∧ (relabel scope X.env).names.lookup x = some .cell := fun {x kd} e => by
    have q := lookup_map_key (f := fun p => if (p.2 == NameKind.free && X.env.scope.kind == .function && X.env.kindOf p.1 == some .cell) = true then (p.1, NameKind.cell) else p) (fun p => by split <;> rfl) e
    have q' : (relabel scope X.env).names.lookup x = some (if (kd == NameKind.free && X.env.scope.kind == .function && X.env.kindOf x == some .cell) = true then (x, NameKind.cell) else (x, kd)).2 := q
    by_cases c : (kd == NameKind.free && X.env.scope.kind == .function && X.env.kindOf x == some .cell) = true
    · rw [if_pos c] at q'
      simp only [Bool.and_eq_true, beq_iff_eq] at c
      exact .inr ⟨c.1.1, q'⟩
    · rw [if_neg c] at q'
      exact .inl q'
  refine ⟨k, ⟨scope.names, XS.no, false⟩, rfl, ⟨fun x kd m => rel (ok.uniq (x, kd) m), fun x kd m l => ?_⟩, fun _ => hK.calm hh.h, fun _ => hK.room hh.h, hK.gd, hK.un, hK.nd, PassesOwn.never, takes_no, fun z => Bool.noConfusion z, fun _ _ _ z => nomatch z⟩
  have e := ok.uniq (x, kd) m
  cases l with
  | l =>
    rcases rel e with z | ⟨z, _⟩
    · exact .inr z
    · cases z
  | c =>
    refine .inl ?_
    show (scope.names.lookup x == some .cell) = true
    rw [e]
    rfl
/-- the names xs forgotten -/
inductive Wip : NE → List Str → NE → Prop
  | nil {E : NE} : Wip E [] E
  | cons {E E' : NE} {x : Str} {xs : List Str} {F : Sl → NE} : Spl E x F → Wip (F .un) xs E' → Wip E (x :: xs) E'
theorem Wip.spec {E E' : NE} {xs : List Str} (h : Wip E xs E') : (E.map (·.1)).Nodup → E'.map (·.1) = E.map (·.1) ∧ (∀ x s, (x, s) ∈ E' → (x ∈ xs ∧ s = .un ∧ ∃ t, (x, t) ∈ E) ∨ (x ∉ xs ∧ (x, s) ∈ E) ∨ s = .un ∧ ∃ t, (x, t) ∈ E) ∧ ∀ x ∈ xs, ∃ t, (x, t) ∈ E := by
  induction h with
  | nil => exact fun _ => ⟨rfl, fun x s m => .inr (.inl ⟨by simp, m⟩), fun x m => by cases m⟩
  | @cons E E' x xs F hx _ ih =>
    intro nd
    obtain ⟨h1, h2, ⟨t, h3⟩, h4⟩ := hx.spec .un
    have nd' : ((F .un).map (·.1)).Nodup := by rw [h1]; exact nd
    obtain ⟨i1, i2, i3⟩ := ih nd'
    have back : ∀ y s, (y, s) ∈ F .un → ∃ t, (y, t) ∈ E := fun y s m => by
      rcases h4 _ m with e | m'
      · obtain ⟨rfl, _⟩ := Prod.mk.inj e; exact ⟨t, h3⟩
      · exact ⟨s, m'⟩
    refine ⟨i1.trans h1, fun y s m => ?_, fun y m => ?_⟩
    · rcases i2 y s m with ⟨_, e, t', m'⟩ | ⟨n, m'⟩ | ⟨e, t', m'⟩
      · exact .inr (.inr ⟨e, back y t' m'⟩)
      · by_cases z : y = x
        · subst z
          obtain rfl := nd_slot nd' m' h2
          exact .inr (.inr ⟨rfl, t, h3⟩)
        · rcases h4 _ m' with e | m''
          · exact absurd (Prod.mk.inj e).1 z
          · exact .inr (.inl ⟨by simp [z, n], m''⟩)
      · exact .inr (.inr ⟨e, back y t' m'⟩)
    · rcases List.mem_cons.mp m with e | m'
      · subst e; exact ⟨t, h3⟩
      · obtain ⟨t', m''⟩ := i3 y m'
        exact back y t' m''
section
variable {C : SC} {A : Amb} {E Eb : NE} {u : A.U} {pos p : Pos} {a b c e tg iter elt : Expr} {ifs : List Expr} {scope : Scope} {xs : List Str}
theorem Env.wip {G0 : Beg} {H0 G H : Hp} {σ : L2.St} (he : Env C A G0 H0 u G H E σ) (h : Wip E xs Eb) (nd : C.N.Nodup) : ∃ own : List (Str × Nat), own.map (·.1) = xs ∧ (∀ p ∈ own, C.N[p.2]? = some p.1) ∧
    ∀ (C' : SC) (u' : A.U) (G' H' : Hp), C'.K = C.K → C'.N = C.N → C'.nx.xs = XS.no → Env C A G0 H0 u' G' H' E σ → Env C' A G0 H0 u' G' H' Eb (wipe σ (own.map (·.2))) := by
  obtain ⟨w1, w2, w3⟩ := h.spec he.nd
  have ix : ∀ ys : List Str, (∀ x ∈ ys, ∃ t, (x, t) ∈ E) → ∃ own : List (Str × Nat), own.map (·.1) = ys ∧ ∀ p ∈ own, C.N[p.2]? = some p.1 := by
    intro ys
    induction ys with
    | nil => exact fun _ => ⟨[], rfl, fun p m => by cases m⟩
    | cons y ys ih =>
      intro hy
      obtain ⟨own, o1, o2⟩ := ih fun x m => hy x (List.mem_cons_of_mem _ m)
      obtain ⟨t, m⟩ := hy y List.mem_cons_self
      obtain ⟨α, e1, _⟩ := he.ent
      obtain ⟨i, q, _⟩ := e1 y t m
      refine ⟨(y, i) :: own, by rw [List.map_cons, o1], fun p m => ?_⟩
      rcases List.mem_cons.mp m with z | z
      · rw [z]; exact q
      · exact o2 p z
  obtain ⟨own, o1, o2⟩ := ix xs w3
  refine ⟨own, o1, o2, fun C' u' G' H' eK eN eX he' => ?_⟩
  obtain ⟨α, e1, e2⟩ := he'.ent
  have keep : ∀ x s, (x, s) ∈ Eb → s = .un ∨ (x ∉ xs ∧ (x, s) ∈ E) := fun x s m => by
    rcases w2 x s m with ⟨_, z, _⟩ | z | ⟨z, _⟩
    · exact .inl z
    · exact .inr z
    · exact .inl z
  refine ⟨he'.gr, Lnk.no eX, he'.st, by rw [w1]; exact he.nd, α, fun x s m => ?_, fun x y s t m1 m2 p1 p2 => ?_⟩
  · rw [eN, eK]
    rcases keep x s m with z | ⟨z, m'⟩
    · subst z
      rcases w2 x _ m with ⟨_, _, t, m'⟩ | ⟨_, m'⟩ | ⟨_, t, m'⟩
      · obtain ⟨i, q, _⟩ := e1 x t m'; exact ⟨i, q, trivial⟩
      · obtain ⟨i, q, _⟩ := e1 x _ m'; exact ⟨i, q, trivial⟩
      · obtain ⟨i, q, _⟩ := e1 x t m'; exact ⟨i, q, trivial⟩
    · obtain ⟨i, q, r⟩ := e1 x s m'
      refine ⟨i, q, ?_⟩
      have : i ∉ own.map (·.2) := fun mem => by
        obtain ⟨pp, hp, rfl⟩ := List.mem_map.mp mem
        have := o2 pp hp
        rw [q] at this
        cases this
        exact z (by rw [← o1]; exact List.mem_map.mpr ⟨pp, hp, rfl⟩)
      rw [wipe_out this]
      exact r
  · rcases keep x s m1 with z | ⟨_, m1'⟩
    · subst z; exact p1.elim
    · rcases keep y t m2 with z | ⟨_, m2'⟩
      · subst z; exact p2.elim
      · exact e2 x y s t m1' m2' p1 p2
theorem wipe_eq {N : List Str} {own : List (Str × Nat)} {σ σ2 : L2.St} (hN : σ.length = N.length) (hl : σ2.length = σ.length) (h : ∀ (i : Nat) (x : Str), N[i]? = some x → x ∉ own.map (·.1) → σ2[i]? = (wipe σ (own.map (·.2)))[i]?) (nd : N.Nodup)
    (ho : ∀ p ∈ own, N[p.2]? = some p.1) : wipe σ2 (own.map (·.2)) = wipe σ (own.map (·.2)) := by
  have inn : ∀ {τ : L2.St} {vs : List Nat} {i : Nat}, i ∈ vs → i < τ.length → (wipe τ vs)[i]? = some none := by
    intro τ vs
    induction vs with
    | nil => intro i m; cases m
    | cons v vs ih =>
      intro i m hi
      unfold wipe
      by_cases z : v = i
      · subst z
        rw [List.getElem?_set_self]
        rw [wipe_length]
        exact hi
      · rw [List.getElem?_set_ne z]
        rcases List.mem_cons.mp m with w | w
        · exact absurd w.symm z
        · exact ih w hi
  refine List.ext_getElem? fun i => ?_
  by_cases hi : i < σ.length
  · by_cases m : i ∈ own.map (·.2)
    · rw [inn m (by rw [hl]; exact hi), inn m hi]
    · rw [wipe_out m, h i (N[i]'(by omega)) (List.getElem?_eq_getElem (by omega)) fun mem => ?_]
      obtain ⟨pp, hp, e⟩ := List.mem_map.mp mem
      have q1 := ho pp hp
      have q2 : N[i]? = some pp.1 := by rw [e]; exact List.getElem?_eq_getElem (by omega)
      exact m (List.mem_map.mpr ⟨pp, hp, nodup_ix nd q1 q2⟩)
  · rw [List.getElem?_eq_none (by rw [wipe_length]; omega), List.getElem?_eq_none (by rw [wipe_length]; omega)]
/-- a clause's tests -/
def rTs (C : SC) (ifs : List Expr) : TT := fun σ H Q => ∀ X pins s, Has C X → Inv X pins σ H s →
  wpAny (model X.prog X.w) X.A (forIn ifs true fun c r => if r = true then do let ok ← isTrue c X.env (eval c X.env); pure (ForInStep.yield ok) else pure (ForInStep.yield r)) (TP X pins σ Q) X.xe s
def EvTs (C : SC) (A : Amb) (ifs : List Expr) (E : NE) (u : A.U) (Φ : Bool → A.U → Prop) : Prop :=
  ∀ G0 H0 G H σ, Env C A G0 H0 u G H E σ → ∀ Q : Bool → Hp → Prop, (∀ b u' G' H', Φ b u' → Grow (A.foot u) (A.foot u') G H G' H' → A.st u' G' H' → Q b H') → rTs C ifs σ H Q
theorem ts_nil {Ψ : Bool → A.U → Prop} (q : Ψ true u) : EvTs C A [] E u Ψ := fun G0 H0 G H σ he Q k X pins s hX I => pts_nil.run pins s σ H Q I (k true u G H q (Grow.refl he.kn) he.st)
theorem ts_one {Ψ : Bool → A.U → Prop} (h : EvT C A c E u Ψ) : EvTs C A [c] E u Ψ := fun G0 H0 G H σ he Q k X pins s hX I => (pts_one (pt_of hX c)).run pins s σ H Q I (h G0 H0 G H σ he Q k)
end
end L3
namespace L3
open PySem PySem.Spec PyProof.Rows L2
/-! ### defs: the promise where no guard is up -/
structure FnG (P : Program) (w : World) (K : PySem.W.Frag) (mg : Str → Option Value) (base : Heap) (k : Nat) (f : Addr) (fd : FuncData) (ps : List Str) (sp : Sp) : Prop where
  len : ∀ vs H Q E, sp vs H Q E → vs.length = ps.length
  run : ∀ (A : Around) (outer : List PySem.Env) (s : Shared) (H : Hp) (args : Args) (us : List Value) (vs : List V) (Q : VK), Room k A → A.guards = some [] → Env0 P w K mg base A outer s H → BindsTo s fd args (ps.zip us) → Vals vs us → sp vs H Q E0 →
    codeAny (model P w) A (.call (.ref f) args) (CR CX0 outer P w H s Q E0) s
section
variable {P : Program} {w : World} {K : PySem.W.Frag} {mg : Str → Option Value} {base : Heap}
theorem FnG.mono {j k : Nat} {f : Addr} {fd : FuncData} {ps : List Str} {sp : Sp} (F : FnG P w K mg base j f fd ps sp) (h : j ≤ k) : FnG P w K mg base k f fd ps sp :=
  ⟨F.len, fun A outer s H args us vs Q hr => F.run A outer s H args us vs Q (hr.mono h)⟩
/-- a def by its body, read step by step; the body may know that no guard is up -/
theorem FnG.mk_ {x qual : Str} {st : Stmt} {f : Addr} {fd : FuncData} {N ps : List Str} {k : Nat} {sp : Sp} (F : Fun K x qual st f fd) (S : FnScope N ps (defScope st)) (len : ∀ vs H Q E, sp vs H Q E → vs.length = ps.length)
    (body : ∀ (cdv : Value) (A : Around) (outer : List PySem.Env) (s : Shared) (H : Hp) (vs : List V) (Q : VK), Room k (A.deeper (envOfC qual (defScope st) s.heap.objs.size f cdv)) → A.guards = some [] → sp vs H Q E0 →
      ∃ t, PSs (cxOf CX0 P w K mg base N qual (defScope st) f cdv A outer s H E0).nox (defBody st) t ∧ t { nx := fun _ H' => Q .non H', rt := Q } (L2.start N vs) H) : FnG P w K mg base (k + 1) f fd ps sp := by
  obtain ⟨oc, od, kV, doc, pm, an, cdv, ct, osl, rfl, lk, hcd⟩ := F.ex
  refine ⟨len, ?_⟩
  intro A outer s H args us vs Q hr hg e0 hb r hsp
  have KX : K.In s.heap := e0.mod.kin.keeps (fun b o e => (e0.bs b o e).1)
  have lim : s.heap.NoLimit := e0.mod.nolimit.keeps (fun b o e => (e0.bs b o e).1)
  refine codeAny_call_function hr.depth (KX _ _ lk) rfl S.co S.gen rfl (PySem.W.codeRec_of KX hcd) (hb _ _ _ _ ?_)
  refine wpAny_newFunctionEnv_cells S.kind ?_ ?_
  · rintro ⟨n, v⟩ hy
    have hn := (List.of_mem_zip hy).1
    cases S.par n hn with
    | inl q => exact .inl q
    | inr q => exact .inr ⟨q, PySem.W.cellsFrom_some _ _ _ (.inl q)⟩
  intro env he s1 x1
  subst he
  refine ⟨lim.keeps x1.toInCall.keep, codeAny_func ?_⟩
  obtain ⟨t, ht, hq⟩ := body cdv A outer s H vs Q (hr.deeper _) hg hsp
  have I : Inv (cxOf CX0 P w K mg base N qual (defScope st) f cdv A outer s H E0) [] (L2.start N vs) H s1 := inv_start S hr.hd e0 (len _ _ _ _ hsp) r x1
  refine wpAny_mono (ht.nox.run [] s1 (L2.start N vs) H _ I hq) ?_ (fun e s' hs => hs)
  intro fl s' hs
  have fin : ∀ {σ' : L2.St} {H' : Hp} {v : V} {u : Value}, Inv (cxOf CX0 P w K mg base N qual (defScope st) f cdv A outer s H E0) [] σ' H' s' → RelV v u → Q v H' → CE outer P w H s Q u s' := by
    intro σ' H' v u J rv q
    exact ⟨v, H', J.os, J.bare, J.base, J.hok, rv, q⟩
  cases fl with
  | ret u => obtain ⟨v, σ', H', J, rv, q⟩ := hs; exact fin J rv q
  | next => obtain ⟨σ', H', J, q⟩ := hs; exact fin (v := V.non) (u := Value.none) J rfl q
  | brk => obtain ⟨_, _, _, q⟩ := hs; exact q.elim
  | cont => obtain ⟨_, _, _, q⟩ := hs; exact q.elim
end
/-! ### what a def promises of data -/
abbrev Sem3 (A : Amb) := List D → A.U → (D → A.U → Prop) → Prop
def spD (K : PySem.W.Frag) (A : Amb) (sem : Sem3 A) : Sp := fun vs H Q _ => ∃ (G : Hp) (ds : List D) (u : A.U) (Φ : D → A.U → Prop), Kn G H ∧ A.st u G H ∧ RpA K G ds vs ∧ sem ds u Φ ∧
  ∀ d u' v G' H', Φ d u' → Grow (A.foot u) (A.foot u') G H G' H' → A.st u' G' H' → Rp K G' d v → Q v H'
/-- the slots at a def's start -/
def begin_ : List Str → List D → NE
  | [], _ => []
  | x :: N, [] => (x, .un) :: begin_ N []
  | x :: N, d :: ds => (x, .dat d) :: begin_ N ds
theorem begin_names : ∀ (N : List Str) (ds : List D), (begin_ N ds).map (·.1) = N
  | [], _ => rfl
  | x :: N, [] => by show x :: (begin_ N []).map (·.1) = _; rw [begin_names N []]
  | x :: N, d :: ds => by show x :: (begin_ N ds).map (·.1) = _; rw [begin_names N ds]
theorem begin_mem : ∀ (N : List Str) (ds : List D) (x : Str) (s : Sl), (x, s) ∈ begin_ N ds → ∃ i : Nat, N[i]? = some x ∧ (s = .un ∨ ∃ d, s = .dat d ∧ ds[i]? = some d)
  | [], _, _, _, m => by cases m
  | y :: N, [], x, s, m => by
    rcases List.mem_cons.mp m with e | m
    · obtain ⟨rfl, rfl⟩ := Prod.mk.inj e; exact ⟨0, rfl, .inl rfl⟩
    · obtain ⟨i, h1, h2⟩ := begin_mem N [] x s m
      refine ⟨i + 1, by simpa using h1, ?_⟩
      rcases h2 with h2 | ⟨d, _, h2⟩
      · exact .inl h2
      · simp at h2
  | y :: N, d :: ds, x, s, m => by
    rcases List.mem_cons.mp m with e | m
    · obtain ⟨rfl, rfl⟩ := Prod.mk.inj e; exact ⟨0, rfl, .inr ⟨d, rfl, rfl⟩⟩
    · obtain ⟨i, h1, h2⟩ := begin_mem N ds x s m
      refine ⟨i + 1, by simpa using h1, ?_⟩
      rcases h2 with h2 | ⟨d', e, h2⟩
      · exact .inl h2
      · exact .inr ⟨d', e, by simpa using h2⟩
/-- the facts of a def's names -/
structure ScOk (N ps : List Str) (st : Stmt) (nm : List (Str × NameKind)) : Prop where
  sc : FnScope N ps (defScope st)
  uq : ∀ y ∈ nm, (defScope st).names.lookup y.1 = some y.2
section
variable {P : Program} {w : World} {K : PySem.W.Frag} {mg : Str → Option Value} {base : Heap} {A : Amb}
/-- the names at a def's start -/
theorem Env.begin_ {xs : XS} {fr : Bool} {N : List Str} {nm : List (Str × NameKind)} {k : Nat} {G H : Hp} {ds : List D} {vs : List V} {u : A.U} (nd : N.Nodup) (kn : Kn G H) (st0 : A.st u G H) (r : RpA K G ds vs) (ln : Lnk ⟨P, w, K, mg, base, N, ⟨nm, xs, fr⟩, k⟩ A (Beg.at A u G) H) :
    Env ⟨P, w, K, mg, base, N, ⟨nm, xs, fr⟩, k⟩ A (Beg.at A u G) H u G H (L3.begin_ N ds) (L2.start N vs) := by
  refine ⟨Grow.refl kn, ln, st0, by rw [begin_names]; exact nd, fun _ => 0, fun y sl m => ?_, fun y z sl t m1 m2 o1 _ _ => ?_⟩
  · obtain ⟨i, h1, h2⟩ := begin_mem N ds y sl m
    refine ⟨i, h1, ?_⟩
    rcases h2 with rfl | ⟨d, rfl, h2⟩
    · trivial
    · obtain ⟨v, hv, rv⟩ := r.getD h2
      refine ⟨v, ?_, rv⟩
      unfold L2.start
      have : i < vs.length := (List.getElem?_eq_some_iff.mp hv).1
      rw [List.getElem?_append_left (by simpa using this), List.getElem?_map, hv]
      rfl
  · obtain ⟨i, h1, h2⟩ := begin_mem N ds y sl m1
    rcases h2 with rfl | ⟨d, rfl, h2⟩ <;> exact o1.elim
/-- THE RULE for a def of data -/
theorem fn_data {x qual : Str} {st : Stmt} {f : Addr} {fd : FuncData} {N ps : List Str} {nm : List (Str × NameKind)} {k : Nat} {sem : Sem3 A} (F : Fun K x qual st f fd) (S : ScOk N ps st nm) (len : ∀ ds u Φ, sem ds u Φ → ds.length = ps.length)
    (body : ∀ ds u Φ, sem ds u Φ → RunK (sc0 P w K mg base N nm k) A (defBody st) (begin_ N ds) u { nx := fun _ u' => Φ .non u', rt := Φ }) : FnG P w K mg base (k + 1) f fd ps (spD K A sem) := by
  refine FnG.mk_ F S.sc (fun vs H Q E ⟨G, ds, u, Φ, _, _, r, h, _⟩ => by rw [r.len]; exact len ds u Φ h) ?_
  intro cdv Ar outer s H vs Q hr hg ⟨G, ds, u, Φ, kn, st0, r, h, q⟩
  have hX : Has (sc0 P w K mg base N nm k) (cxOf CX0 P w K mg base N qual (defScope st) f cdv Ar outer s H E0).nox := by
    refine ⟨k, ⟨nm, XS.no, true⟩, rfl, ⟨fun y kd m => .inl (S.uq _ m), fun y kd m l => .inl rfl⟩, fun _ => rfl, fun _ => hr, hg, hr.units, S.sc.nd, PassesOwn.never, takes_no, fun _ => ⟨rfl, rfl⟩, fun _ _ _ z => nomatch z⟩
  refine ⟨rSs (sc0 P w K mg base N nm k) (defBody st), pss_of hX (defBody st), ?_⟩
  refine body ds u Φ h (Beg.at A u G) H G H (L2.start N vs) _ (Env.begin_ S.sc.nd kn st0 r (Lnk.no rfl)) ⟨fun E u' G' H' σ p he => q _ u' _ G' H' p he.gr he.st (by simp only [Rp]), fun _ _ _ _ _ p _ => p.elim, fun _ _ _ _ _ p _ => p.elim, fun d u' v G' H' p g s' r' => q d u' v G' H' p g s' r'⟩
end
/-- a def at hand: its name's address, its level -/
structure DefK (P : Program) (w : World) (K : PySem.W.Frag) (mg : Str → Option Value) (base : Heap) (k : Nat) (A : Amb) (x : Str) (sem : Sem3 A) : Prop where
  ex : ∃ (f : Addr) (fd : FuncData) (ps : List Str), mg x = some (.ref f) ∧ PySem.W.keepIn K (.ref f) = true ∧ Binds K fd ps [] ∧ FnG P w K mg base k f fd ps (spD K A sem)
theorem DefK.mono {P : Program} {w : World} {K : PySem.W.Frag} {mg : Str → Option Value} {base : Heap} {j k : Nat} {A : Amb} {x : Str} {sem : Sem3 A} (F : DefK P w K mg base j A x sem) (h : j ≤ k) : DefK P w K mg base k A x sem := by
  obtain ⟨f, fd, ps, a, b, c, G⟩ := F.ex
  exact ⟨f, fd, ps, a, b, c, G.mono h⟩
section
variable {C : SC} {A : Amb} {E : NE} {u : A.U} {Φ : D → A.U → Prop} {pos p : Pos} {e : Expr} {es : List Expr}
theorem k_call [hh : Cold C] {x : Str} {sem : Sem3 A} (F : DefK C.P C.w C.K C.mg C.base C.k A x sem) (hn : Nm C.nm x .globalImplicit) (h : EvA C A (e :: es) E u fun ds u' => sem ds u' Φ)
    (hd : (x == ("__debug__" : Str)) = false := by decide +kernel) (he : ∀ env, starEach (e :: es) env = (false, eval e env) :: starEach es env := by intro _; rfl) (hpl : ∀ env, (backTo pos (starEach es env)).any (·.1) = false := by intro _; rfl) :
    EvK C A (.Call (.Name x p) (e :: es) [] pos) E u Φ := by
  intro G0 H0 G H σ hE Q q X pins s hX I
  obtain ⟨j, nm, rfl, hO, hK⟩ := id hX
  obtain ⟨f, fd, ps, hm, hk, hb, F⟩ := F.ex
  refine wpAny_Call_Name_kw (ld_glob I (hn.gl hO) hm ?_ hd)
  refine PySem.W.callWith_K (h₀ := X.base) I.ok.mod.kin hk (thn ((pa_of hX (e :: es)).run pos pins s σ H (fun vs H1 => spD X.K A sem vs H1 Q E0) I ?_) fun us s1 ⟨vs, H1, I1, r, z⟩ => ⟨I1.kIn, ?_⟩) (he X.env) (hpl X.env)
  · refine h G0 H0 G H σ hE _ fun ds u1 vs G1 H1 hs g st r => ?_
    exact ⟨G1, ds, u1, Φ, g.gh, st, r, hs, fun d u2 v G2 H2 p2 g2 st2 r2 => q d u2 v G2 H2 p2 (g.trans g2) st2 r2⟩
  · have hl : us.length = ps.length := by rw [← r.length]; exact F.len _ _ _ _ z
    have hb' := hb s1 us I1.kIn (by rw [List.append_nil]; exact hl)
    rw [List.append_nil] at hb'
    refine wpAny_call (codeAny_mono (F.run X.A X.stack s1 H1 ⟨us, []⟩ us vs Q (hK.room hh.h) hK.gd I1.env0 hb' r z) fun rr s' hq => ?_)
    cases rr with
    | error e => exact hq.elim
    | ok fl =>
      cases fl with
      | ret u => exact I1.after hq
      | next => exact hq.elim
      | brk => exact hq.elim
      | cont => exact hq.elim
end
end L3
namespace L3
open PySem PySem.Spec PyProof.Rows L2
/-! ### built-ins -/
def lenW : List D → (D → Prop) → Prop
  | [.lst l], Ψ => Ψ (.int l.length)
  | [.tup l], Ψ => Ψ (.int l.length)
  | [.str s], Ψ => s.length ≤ sizeLine ∧ Ψ (.int s.length)
  | [.dct l], Ψ => Ψ (.int l.length)
  | _, _ => False
def sumW : List D → (D → Prop) → Prop := fun ds Ψ => ∃ ns : List Int, ds = [.lst (ns.map .int)] ∧ Ψ (.int ns.sum)
def intW : List D → (D → Prop) → Prop
  | [.int i], Ψ => Ψ (.int i)
  | [.bl b], Ψ => Ψ (.int (if b then 1 else 0))
  | _, _ => False
def absW : List D → (D → Prop) → Prop
  | [.int i], Ψ => Ψ (.int (if i < 0 then -i else i))
  | _, _ => False
def tupleW : List D → (D → Prop) → Prop
  | [.lst l], Ψ => Ψ (.tup l)
  | [.tup l], Ψ => Ψ (.tup l)
  | _, _ => False
def listW : List D → (D → Prop) → Prop
  | [.lst l], Ψ => Ψ (.lst l)
  | [.tup l], Ψ => Ψ (.lst l)
  | [.str s], Ψ => s.length ≤ sizeLine ∧ Ψ (.lst (sgs s))
  | _, _ => False
def reprW : List D → (D → Prop) → Prop
  | [d], Ψ => d.pl = true ∧ (pd d).showable = true ∧ (pd d).depth ≤ 60 ∧ (pd d).shown.length ≤ sizeLine ∧ Ψ (.str (pd d).shown)
  | _, _ => False
section
variable {C : SC}
theorem rpa1 {K : PySem.W.Frag} {G : Hp} {d : D} {xs : List V} (h : RpA K G [d] xs) : ∃ x, xs = [x] ∧ Rp K G d x := by
  rw [RpA.cons_iff] at h
  obtain ⟨x, r, rfl, h1, h2⟩ := h
  rw [RpA.nil_iff] at h2
  subst h2
  exact ⟨x, rfl, h1⟩
theorem RpK.len {K : PySem.W.Frag} {G : Hp} : ∀ {ds : List (Key × D)} {xs : List (Key × V)}, RpK K G ds xs → xs.length = ds.length
  | [], xs, h => by simp only [RpK] at h; subst h; rfl
  | d :: ds, xs, h => by
    simp only [RpK] at h
    obtain ⟨x, r, rfl, _, h2⟩ := h
    simp only [List.length_cons, RpK.len h2]
theorem len_ok : CallS C (.builtin "len") lenW := by
  rintro X ⟨k, nm, rfl, hO, hK⟩ pins s σ H xs us Q I rx ⟨G, ds, Ψ, kn, r, f, q⟩
  obtain ⟨d, rfl⟩ : ∃ d, ds = [d] := by
    rcases ds with _ | ⟨d, _ | ⟨d2, ds⟩⟩
    · exact f.elim
    · exact ⟨d, rfl⟩
    · cases d <;> exact f.elim
  obtain ⟨x, ex, r1⟩ := rpa1 r
  subst ex
  clear r
  have r := r1
  clear r1
  cases d <;> try exact f.elim
  case str z =>
    simp only [Rp] at r
    subst r
    exact call_len pins s σ H _ us Q I rx ⟨_, _, rfl, ⟨f.1, rfl⟩, q _ _ G H f.2 (Grow.refl kn) (by simp only [Rp])⟩
  case lst l =>
    simp only [Rp] at r
    obtain ⟨a, ys, rfl, h1, h2⟩ := r
    exact call_len pins s σ H _ us Q I rx ⟨_, l.length, rfl, .inl ⟨ys, SqL.of (kn _ _ h1), h2.len.symm⟩, q _ _ G H f (Grow.refl kn) (by simp only [Rp])⟩
  case tup l =>
    simp only [Rp] at r
    obtain ⟨a, ys, rfl, h1, h2⟩ := r
    exact call_len pins s σ H _ us Q I rx ⟨_, l.length, rfl, .inr ⟨ys, kn.sqT h1, h2.len.symm⟩, q _ _ G H f (Grow.refl kn) (by simp only [Rp])⟩
  case dct l =>
    simp only [Rp] at r
    obtain ⟨a, ys, rfl, h1, h2⟩ := r
    exact call_lenD pins s σ H _ us Q I rx ⟨a, ys, rfl, kn _ _ h1, by rw [h2.len]; exact q (.int l.length) _ G H f (Grow.refl kn) (by simp only [Rp])⟩
theorem sum_ok [hh : Cold C] : CallS C (.builtin "sum") sumW := by
  rintro X ⟨k, nm, rfl, hO, hK⟩ pins s σ H xs us Q I rx ⟨G, ds, Ψ, kn, r, ⟨ns, rfl, f⟩, q⟩
  obtain ⟨x, ex, r1⟩ := rpa1 r
  subst ex
  simp only [Rp] at r1
  obtain ⟨a, ys, rfl, h1, h2⟩ := r1
  have e := h2.ints
  subst e
  exact cr_sum (hK.calm hh.h) pins s σ H _ us Q I rx ⟨a, ns, rfl, SqL.of (kn _ _ h1), q _ _ G H f (Grow.refl kn) (by simp only [Rp])⟩
theorem int_ok : CallS C (.type "int") intW := by
  rintro X ⟨k, nm, rfl, hO, hK⟩ pins s σ H xs us Q I rx ⟨G, ds, Ψ, kn, r, f, q⟩
  obtain ⟨d, rfl⟩ : ∃ d, ds = [d] := by
    rcases ds with _ | ⟨d, _ | ⟨d2, ds⟩⟩
    · exact f.elim
    · exact ⟨d, rfl⟩
    · cases d <;> exact f.elim
  obtain ⟨x, ex, r1⟩ := rpa1 r
  subst ex
  clear r
  have r := r1
  clear r1
  cases d <;> try exact f.elim
  case bl b =>
    simp only [Rp] at r
    subst r
    exact call_int1 pins s σ H _ us Q I rx (.inr ⟨b, rfl, q _ _ G H f (Grow.refl kn) (by simp only [Rp])⟩)
  case int b =>
    simp only [Rp] at r
    subst r
    exact call_int1 pins s σ H _ us Q I rx (.inl ⟨b, rfl, q _ _ G H f (Grow.refl kn) (by simp only [Rp])⟩)
theorem abs_ok : CallS C (.builtin "abs") absW := by
  rintro X ⟨k, nm, rfl, hO, hK⟩ pins s σ H xs us Q I rx ⟨G, ds, Ψ, kn, r, f, q⟩
  obtain ⟨d, rfl⟩ : ∃ d, ds = [d] := by
    rcases ds with _ | ⟨d, _ | ⟨d2, ds⟩⟩
    · exact f.elim
    · exact ⟨d, rfl⟩
    · cases d <;> exact f.elim
  obtain ⟨x, ex, r1⟩ := rpa1 r
  subst ex
  clear r
  have r := r1
  clear r1
  cases d <;> try exact f.elim
  case int b =>
    simp only [Rp] at r
    subst r
    exact call_abs pins s σ H _ us Q I rx ⟨b, rfl, q _ _ G H f (Grow.refl kn) (by simp only [Rp])⟩
theorem tuple_ok : CallS C (.type "tuple") tupleW := by
  rintro X ⟨k, nm, rfl, hO, hK⟩ pins s σ H xs us Q I rx ⟨G, ds, Ψ, kn, r, f, q⟩
  obtain ⟨d, rfl⟩ : ∃ d, ds = [d] := by
    rcases ds with _ | ⟨d, _ | ⟨d2, ds⟩⟩
    · exact f.elim
    · exact ⟨d, rfl⟩
    · cases d <;> exact f.elim
  obtain ⟨x, ex, r1⟩ := rpa1 r
  subst ex
  clear r
  have r := r1
  clear r1
  cases d <;> try exact f.elim
  case lst l =>
    simp only [Rp] at r
    obtain ⟨a, ys, rfl, h1, h2⟩ := r
    refine call_tuple_of pins s σ H _ us Q I rx ⟨a, ys, rfl, .inl ⟨SqL.of (kn _ _ h1), fun p hp => ?_⟩⟩
    have g : Grow noFoot noFoot G H (upd G p (.tup ys)) (upd H p (.tup ys)) := Grow.new kn hp
    exact q _ _ _ _ f g (by simp only [Rp]; exact ⟨p, ys, rfl, .inl (.inl upd_same), h2.mono g.gg⟩)
  case tup l =>
    simp only [Rp] at r
    obtain ⟨a, ys, rfl, h1, h2⟩ := r
    exact call_tuple_of pins s σ H _ us Q I rx ⟨a, ys, rfl, .inr ⟨kn.sqT h1, q _ _ G H f (Grow.refl kn) (by simp only [Rp]; exact ⟨a, ys, rfl, h1, h2⟩)⟩⟩
theorem vals_signs : ∀ (cs : List Nat) (us : List Value), us.length = cs.length → (∀ (j : Nat) (v : Value), us[j]? = some v → ∃ c u, cs[j]? = some c ∧ v = Value.str ⟨#[c]⟩ u) → L2.Vals (cs.map fun c => V.str ⟨#[c]⟩) us
  | [], [], _, _ => .nil
  | [], _ :: _, h, _ => by cases h
  | _ :: _, [], h, _ => by cases h
  | c :: cs, u :: us, h, k => by
    obtain ⟨c', t, e1, e2⟩ := k 0 u rfl
    cases e1
    exact .cons ⟨t, e2⟩ (vals_signs cs us (Nat.succ.inj h) fun j v e => k (j + 1) v e)
theorem rpa_signs {K : PySem.W.Frag} {G : Hp} : ∀ (cs : List Nat), RpA K G (cs.map fun c => D.str ⟨#[c]⟩) (cs.map fun c => V.str ⟨#[c]⟩)
  | [] => RpA.nil_iff.mpr rfl
  | c :: cs => RpA.cons (by simp only [Rp]) (rpa_signs cs)
theorem list_ok [hh : Cold C] : CallS C (.type "list") listW := by
  rintro X ⟨k, nm, rfl, hO, hK⟩ pins s σ H xs us Q I rx ⟨G, ds, Ψ, kn, r, f, q⟩
  obtain ⟨d, rfl⟩ : ∃ d, ds = [d] := by
    rcases ds with _ | ⟨d, _ | ⟨d2, ds⟩⟩
    · exact f.elim
    · exact ⟨d, rfl⟩
    · cases d <;> exact f.elim
  obtain ⟨x, ex, r1⟩ := rpa1 r
  subst ex
  clear r
  have r := r1
  clear r1
  cases d <;> try exact f.elim
  case lst l =>
    simp only [Rp] at r
    obtain ⟨a, ys, rfl, h1, h2⟩ := r
    refine call_list_of pins s σ H _ us Q I rx ⟨a, ys, rfl, .inl (SqL.of (kn _ _ h1)), fun p hp => ?_⟩
    have g : Grow noFoot noFoot G H (upd G p (.lst ys)) (upd H p (.lst ys)) := Grow.new kn hp
    exact q _ _ _ _ f g (by simp only [Rp]; exact ⟨p, ys, rfl, upd_same, h2.mono g.gg⟩)
  case tup l =>
    simp only [Rp] at r
    obtain ⟨a, ys, rfl, h1, h2⟩ := r
    refine call_list_of pins s σ H _ us Q I rx ⟨a, ys, rfl, .inr (kn.sqT h1), fun p hp => ?_⟩
    have g : Grow noFoot noFoot G H (upd G p (.lst ys)) (upd H p (.lst ys)) := Grow.new kn hp
    exact q _ _ _ _ f g (by simp only [Rp]; exact ⟨p, ys, rfl, upd_same, h2.mono g.gg⟩)
  case str z =>
    simp only [Rp] at r
    subst r
    obtain ⟨v, rfl, rv⟩ : ∃ v, us = [v] ∧ RelV (.str z) v := by
      cases rx with
      | cons a b => cases b; exact ⟨_, rfl, a⟩
    obtain ⟨t, rfl⟩ := rv
    refine PySem.call_list_str (I.ok.hd (hK.calm hh.h)) z t (fun h' tk acc c' kp hn hi => ?_) f.1
    have hp : H s.heap.objs.size = none := I.hok.fresh (Nat.le_refl _)
    have g : Grow noFoot noFoot G H (upd G s.heap.objs.size (.lst (z.cps.toList.map fun c => V.str ⟨#[c]⟩))) (upd H s.heap.objs.size (.lst (z.cps.toList.map fun c => V.str ⟨#[c]⟩))) := Grow.new kn hp
    refine ⟨.ref s.heap.objs.size, upd H s.heap.objs.size (.lst (z.cps.toList.map fun c => V.str ⟨#[c]⟩)), I.laid (t' := tk) kp (Nat.le_refl _) ⟨?_, acc.toList, c', vals_signs _ _ ?_ fun j v e => ?_, hn⟩, rfl, q _ _ _ _ f.2 g ?_⟩
    · rw [List.length_map, Array.length_toList]; exact f.1
    · rw [Array.length_toList, Array.length_toList]; exact hi.1
    · obtain ⟨c, u, e1, e2⟩ := hi.2 j v (by simpa using e)
      exact ⟨c, u, by simpa using e1, e2⟩
    · simp only [Rp]; exact ⟨_, _, rfl, upd_same, rpa_signs _⟩
mutual
theorem pd_nodict : ∀ d : D, (pd d).hasDict = false
  | .non | .bl _ | .int _ | .str _ | .ty _ | .obj _ | .dct _ | .fdc _ => by simp only [pd, PyData.hasDict]
  | .lst l | .tup l => by simp only [pd, PyData.hasDict]; exact pdA_nodict l
theorem pdA_nodict : ∀ ds : List D, PyData.hasDictAll (pdA ds) = false
  | [] => rfl
  | d :: ds => by simp only [pdA, PyData.hasDictAll, pd_nodict d, pdA_nodict ds, Bool.or_self]
end
theorem repr_ok : CallS C (.builtin "repr") reprW := by
  rintro X ⟨k, nm, rfl, hO, hK⟩ pins s σ H xs us Q I rx ⟨G, ds, Ψ, kn, r, f, q⟩
  obtain ⟨d, rfl⟩ : ∃ d, ds = [d] := by
    rcases ds with _ | ⟨d, _ | ⟨d2, ds⟩⟩
    · exact f.elim
    · exact ⟨d, rfl⟩
    · cases d <;> exact f.elim
  obtain ⟨x, ex, r1⟩ := rpa1 r
  subst ex
  clear r
  have r := r1
  clear r1
  obtain ⟨f1, f2, f3, f4, f⟩ := f
  have hu := Has.hu hK
  obtain ⟨v, rfl, rv⟩ : ∃ v, us = [v] ∧ RelV x v := by
    cases rx with
    | cons a b => cases b; exact ⟨_, rfl, a⟩
  obtain ⟨as, rd⟩ := Dp.reads I _ x v (Rp.dp kn f1 r) rv
  have fin : ∀ (h' : Heap) (u : Tok) (tk : Nat), (∀ b o, s.heap.get? b = some o → h'.get? b = some o) → EP X pins σ Q (.str (pd d).shown u) { s with heap := h', toks := tk } := fun h' u tk hk =>
    ⟨.str _, H, I.kept (t' := tk) hk, ⟨u, rfl⟩, q _ _ G H f (Grow.refl kn) (by simp only [Rp])⟩
  have tk : ∀ n, EP X pins σ Q (.str (pd d).shown n) { s with toks := n + 1 } := fun n => fin s.heap n (n + 1) fun _ _ e => e
  cases d with
  | non => simp only [Rp] at r; subst r; cases rv; exact PySem.P.repr_of_none (tk _)
  | bl b => simp only [Rp] at r; subst r; cases rv; exact PySem.P.repr_of_bool (by cases b <;> exact tk _)
  | int i =>
    simp only [Rp] at r; subst r; obtain ⟨t, rfl⟩ := rv
    exact PySem.P.repr_of_int (by simpa [pd, PyData.showable] using f2) (tk _)
  | str i =>
    simp only [Rp] at r; subst r; obtain ⟨t, rfl⟩ := rv
    exact PySem.P.repr_of_str (tk _) f4
  | lst l =>
    simp only [Rp] at r; obtain ⟨a, ys, rfl, _, _⟩ := r; cases rv
    exact PySem.repr_of_reads' rd f2 (fun z => by rw [pd_nodict] at z; cases z) hK.gd (by omega) (fun _ _ e => e) fin f4
  | tup l =>
    simp only [Rp] at r; obtain ⟨a, ys, rfl, _, _⟩ := r; cases rv
    exact PySem.repr_of_reads' rd f2 (fun z => by rw [pd_nodict] at z; cases z) hK.gd (by omega) (fun _ _ e => e) fin f4
  | _ => simp only [D.pl] at f1; cases f1
end
end L3
namespace L3
open PySem PySem.Spec PyProof.Rows L2
section
variable {C : SC} {A : Amb} {E : NE} {u : A.U} {Φ : D → A.U → Prop} {pos p apos : Pos} {e o : Expr} {es : List Expr}
/-! ### methods of texts -/
def MetS (C : SC) (id : String) (W : D → List D → (D → Prop) → Prop) : Prop := ∀ X, Has C X → MtR X id (rM C.K W)
theorem k_m1 {bid : String} {name : Str} {W : D → List D → (D → Prop) → Prop} (slot : Slot "str" name bid) (ty : typeOf (.builtin bid) = pure (.type "method_descriptor")) (hM : MetS C bid W)
    (h : EvK C A o E u fun d u1 => ∃ s, d = .str s ∧ EvK C A e E u1 fun d2 u2 => W (.str s) [d2] fun r => Φ r u2)
    (hs : ∀ env, starEach [e] env = [(false, eval e env)] := by intro _; rfl) (hb : ∀ env, attributeBase o name env (eval o env) = eval o env := by intro _; rfl) (hl : (apos.endLine == pos.line) = true := by rfl) :
    EvK C A (.Call (.Attribute o name apos) [e] [] pos) E u Φ := by
  refine EvK.of _ (fun X hX => pe_m1 slot ty (hM X hX) (pe_of hX o) (pe_of hX e) (hs X.env) (hb X.env) hl) fun G0 H0 G H σ he Q q => ?_
  refine h G0 H0 G H σ he _ fun d u1 v G1 H1 ⟨s, ed, p1⟩ g st r => ?_
  subst ed
  have r' := r
  simp only [Rp] at r'
  subst r'
  refine ⟨⟨s, rfl⟩, ?_⟩
  refine p1 G0 H0 G1 H1 σ (he.go g st) _ fun d2 u2 v2 G2 H2 p2 g2 st2 r2 => ?_
  exact ⟨G2, .str s, [d2], _, g2.gh, r.mono g2.gg, RpA.one r2, p2, fun d3 v3 G3 H3 h3 g3 r3 => q d3 u2 v3 G3 H3 h3 ((g.trans g2).trans g3.weak) (A.grow st2 g3) r3⟩
def sixW : D → List D → (D → Prop) → Prop
  | .str s, [.str t], Ψ => ∃ i rest, Builtin.Str.occurrences s t 0 s.length 1 = i :: rest ∧ Ψ (.int (i : Nat))
  | _, _, _ => False
theorem strs2 {K : PySem.W.Frag} {G : Hp} {s t : Str} {x : V} {xs : List V} (ra : Rp K G (.str s) x) (rb : RpA K G [.str t] xs) : x = .str s ∧ xs = [.str t] := by
  obtain ⟨y, e, r⟩ := rpa1 rb
  simp only [Rp] at ra r
  exact ⟨ra, by rw [e, r]⟩
theorem six_ok : MetS C "str.index" sixW := by
  rintro X ⟨k, nm, rfl, hO, hK⟩ pins s σ H x xs v us Q I rx rs ⟨G, da, ds, Ψ, kn, ra, rb, f, q⟩
  obtain ⟨a, b, rfl, rfl⟩ : ∃ a b, da = .str a ∧ ds = [.str b] := by
    rcases ds with _ | ⟨d, _ | ⟨d2, ds⟩⟩ <;> cases da <;> first | exact f.elim | (cases d <;> first | exact f.elim | exact ⟨_, _, rfl, rfl⟩)
  obtain ⟨rfl, rfl⟩ := strs2 ra rb
  obtain ⟨i, rest, ho, f⟩ := f
  exact mt_sindex pins s σ H _ _ v us Q I rx rs ⟨a, b, i, rest, rfl, rfl, ho, q _ _ G H f (Grow.refl kn) (by simp only [Rp])⟩
def joinW : D → List D → (D → Prop) → Prop
  | .str s, [d], Ψ => ∃ ys : List Str, (d = .lst (ys.map .str) ∨ d = .tup (ys.map .str)) ∧ (ys.map (·.length)).sum + ys.length * s.length ≤ 16777216 ∧ Ψ (.str (Txt.join s ys))
  | _, _, _ => False
theorem join_ok : MetS C "str.join" joinW := by
  rintro X ⟨k, nm, rfl, hO, hK⟩ pins s σ H x xs v us Q I rx rs ⟨G, da, ds, Ψ, kn, ra, rb, f, q⟩
  obtain ⟨a, d, rfl, rfl⟩ : ∃ a d, da = .str a ∧ ds = [d] := by
    rcases ds with _ | ⟨d, _ | ⟨d2, ds⟩⟩ <;> cases da <;> first | exact f.elim | exact ⟨_, _, rfl, rfl⟩
  obtain ⟨ys, hd, hz, f⟩ := f
  obtain ⟨y, rfl, r1⟩ := rpa1 rb
  simp only [Rp] at ra
  subst ra
  rcases hd with rfl | rfl
  · simp only [Rp] at r1
    obtain ⟨l, vs, rfl, h1, h2⟩ := r1
    obtain rfl := h2.strs
    exact mt_join pins s σ H _ _ v us Q I rx rs ⟨a, l, ys, rfl, rfl, .inl (SqL.of (kn _ _ h1)), hz, q _ _ G H f (Grow.refl kn) (by simp only [Rp])⟩
  · simp only [Rp] at r1
    obtain ⟨l, vs, rfl, h1, h2⟩ := r1
    obtain rfl := h2.strs
    exact mt_join pins s σ H _ _ v us Q I rx rs ⟨a, l, ys, rfl, rfl, .inr (kn.sqT h1), hz, q _ _ G H f (Grow.refl kn) (by simp only [Rp])⟩
/-! ### products -/
theorem RpA.rep {K : PySem.W.Frag} {G : Hp} {ds : List D} {xs : List V} (h : RpA K G ds xs) : ∀ n : Nat, RpA K G (List.replicate n ds).flatten (List.replicate n xs).flatten
  | 0 => RpA.nil_iff.mpr rfl
  | n + 1 => by
    rw [List.replicate_succ, List.replicate_succ, List.flatten_cons, List.flatten_cons]
    exact h.append (RpA.rep h n)
theorem foldl_app (a : Array Nat) : ∀ (n : Nat) (acc : Array Nat), ((List.replicate n a).foldl (· ++ ·) acc) = (acc.toList ++ (List.replicate n a.toList).flatten).toArray
  | 0, acc => by simp
  | n + 1, acc => by
    rw [List.replicate_succ, List.foldl_cons, foldl_app a n (acc ++ a), List.replicate_succ, List.flatten_cons, Array.toList_append, List.append_assoc]
theorem strRep_len (n : Nat) (s : Str) : (strRep n s).length = s.length * n := by
  show (strRep n s).cps.size = s.cps.size * n
  unfold strRep
  rw [List.size_toArray, PyProof.Rows.lm_len_rep_flat, Array.length_toList, Nat.mul_comm]
theorem mul_s {M : World} {A' : Around} {Ex : Value → Shared → Prop} {pr : Program} {st : Shared} {s : Str} {j : Int} {t u : Tok} {Q : Value → Shared → Prop} (h1 : -(2 ^ 63) ≤ j) (h2 : j ≤ 100000) (h3 : s.length * j.toNat ≤ 100000)
    (q : ∀ tk n, Q (.str (strRep j.toNat s) tk) { st with toks := n }) : wpAny (model pr M) A' (binaryOp .Mult (.str s t) (.int j u)) Q Ex st := by
  have c : (s.length : Int) * j ≤ 100000 ∨ j < 1 := by
    by_cases z : j < 1
    · exact .inr z
    · left
      have e : ((j.toNat : Nat) : Int) = j := Int.toNat_of_nonneg (by omega)
      have := Int.ofNat_le.mpr h3
      rw [Int.natCast_mul, e] at this
      exact this
  refine PySem.P.mul_str (by rw [decide_eq_false (by omega), decide_eq_false (by omega)]; rfl) (fun n1 _ => ?_) (fun n1 _ => ?_) ?_
  · have h : (s.length : Int) ≤ (2 ^ 63 - 1) / j := Int.le_ediv_of_mul_le (by omega) (by rcases c with c | c <;> omega)
    omega
  · unfold Builtin.Str.tooLong
    rw [sizeLine_eq]
    exact decide_eq_false (by omega)
  · by_cases z : j < 1
    · rw [if_pos z]
      have e : j.toNat = 0 := by omega
      rw [e] at q
      exact ⟨by decide, q _ _⟩
    · rw [if_neg z]
      by_cases w : (j == 1 || s.length == 0) = true
      · rw [if_pos w]
        have e : strRep j.toNat s = s := by
          simp only [Bool.or_eq_true, beq_iff_eq] at w
          rcases w with w | w
          · subst w
            unfold strRep
            simp
          · have : s.cps = #[] := Array.eq_empty_of_size_eq_zero w
            obtain ⟨cp⟩ := s
            subst this
            unfold strRep
            simp
        rw [e] at q
        have := q t st.toks
        exact this
      · rw [if_neg w]
        have e : (⟨(List.replicate j.toNat s.cps).foldl (· ++ ·) #[]⟩ : Str) = strRep j.toNat s := by
          rw [foldl_app]
          rfl
        rw [e]
        refine ⟨?_, q _ _⟩
        rw [strRep_len, sizeLine_eq]
        omega
theorem tuple_mul1 (l : Addr) (items : Array Value) (n : Nat) (dd : Option Addr) (sl : Array (Option Value)) (u : Tok) :
    Meets (Builtin.«tuple.__mul__» ⟨[.ref l, .int 1 u], []⟩) (fun _ R s => s.heap.get? l = some { cls := .type "tuple", dict := dd, data := .seq items n, slots := sl } ∧ R (.ok (.ret (Value.ref l))) s) :=
  .of_wp fun prog w A R s h => by
    obtain ⟨hp, g, d, tk, os⟩ := s
    obtain ⟨hl, h⟩ := h
    have f1 := AutoSeq1.idx_int
    wp_walk using wpAny_loadPart' hl
    exact ⟨_, rfl, h⟩
theorem rep1 {X : Cx} {pins : List (Addr × Obj)} {s : Shared} {σ : L2.St} {H : Hp} {l : Addr} {xs : List V} {t : Tok} {Q : VK} (I : Inv X pins σ H s) (hT : SqT X.K H l xs) (q : Q (.ref l) H) :
    wpAny (model X.prog X.w) X.A (binaryOp .Mult (.ref l) (.int 1 t)) (EP X pins σ Q) X.xe s := by
  obtain ⟨its, r, ⟨⟨cls, dd, data, sl⟩, ho, hc, n, hd⟩, hs⟩ := I.tuple hT
  simp only at hc hd
  subst hc hd
  have h2 := call_meets (prog := X.prog) (w := X.w) (A := X.A) (E := X.xe) F.slot_tuple_mul (show s.TypeIs (.ref l) "tuple" from ⟨_, ho, rfl⟩) F.entry_tuple_mul
    (F.args_tuple_mul_2 _ _) (tuple_mul1 l its.toArray n dd sl t) (Q := EP X pins σ Q) ⟨ho, ⟨.ref l, H, I, rfl, q⟩⟩
  have h1 := int_rmul_tuple 1 t l its.toArray n dd sl
  refine wpAny_binaryOp_repeat_ref (T := "tuple") (U := "int") (by decide) ⟨_, ho, rfl⟩
    (fun s' => typeIs_int s' 1 t) noFill_tuple_mul F.fills_int_mul F.slot_int_rmul repeat_tuple
    F.slot_int_index.lookup (call_meets F.slot_int_rmul (typeIs_int s 1 t) F.entry_int_rmul
      (F.args_int_rmul_2 _ _) h1 ⟨ho, rfl, ⟨_, ho, rfl⟩, h2⟩)
theorem mul_ok : OpS C (binaryOp .Mult) mulW := by
  rintro X ⟨k, nm, rfl, hO, hK⟩ pins s σ H x y v u Q I rx ry ⟨G, da, db, Ψ, kn, ra, rb, f, q⟩
  cases da <;> cases db <;> try exact f.elim
  case int.int i j =>
    simp only [Rp] at ra rb
    subst ra rb
    exact op_mulW pins s σ H _ _ v u Q I rx ry ⟨i, j, rfl, rfl, f.1, q _ _ G H f.2 (Grow.refl kn) (by simp only [Rp])⟩
  case lst.int l j =>
    simp only [Rp] at ra rb
    obtain ⟨a, xs, rfl, h1, h2⟩ := ra
    subst rb
    obtain ⟨f1, f2, f3, f⟩ := f
    refine op_rep pins s σ H _ _ v u Q I rx ry ⟨a, j, xs, rfl, rfl, kn _ _ h1, f1, f2, by rw [h2.len]; exact f3, fun p hp => ?_⟩
    have g : Grow noFoot noFoot G H (upd G p (.lst (List.replicate j.toNat xs).flatten)) (upd H p (.lst (List.replicate j.toNat xs).flatten)) := Grow.new kn hp
    exact q _ _ _ _ f g (by simp only [Rp]; exact ⟨p, _, rfl, upd_same, (h2.rep _).mono g.gg⟩)
  case tup.int l j =>
    simp only [Rp] at ra rb
    obtain ⟨a, xs, rfl, h1, h2⟩ := ra
    subst rb
    obtain ⟨f1, f2, f3, f4, f⟩ := f
    by_cases j1 : j = 1
    · subst j1
      cases rx
      obtain ⟨tk, rfl⟩ := ry
      refine rep1 I (kn.sqT h1) (q _ _ G H f (Grow.refl kn) ?_)
      simp only [Rp]
      exact ⟨a, xs, rfl, h1, by simpa using h2⟩
    refine op_repT pins s σ H _ _ v u Q I rx ry ⟨a, j, xs, rfl, rfl, kn.sqT h1, fun e => ?_, by omega, f3, by rw [h2.len]; exact f4, fun p hp => ?_⟩
    · subst e
      exact f1 (List.eq_nil_of_length_eq_zero h2.len.symm)
    have g : Grow noFoot noFoot G H (upd G p (.tup (List.replicate j.toNat xs).flatten)) (upd H p (.tup (List.replicate j.toNat xs).flatten)) := Grow.new kn hp
    exact q _ _ _ _ f g (by simp only [Rp]; exact ⟨p, _, rfl, .inl (.inl upd_same), (h2.rep _).mono g.gg⟩)
  case str.int t j =>
    simp only [Rp] at ra rb
    subst ra rb
    obtain ⟨tk, rfl⟩ := rx
    obtain ⟨tk2, rfl⟩ := ry
    obtain ⟨f1, f2, f3, f⟩ := f
    exact mul_s f1 f2 f3 fun t n => ⟨.str _, H, I.tok _, ⟨t, rfl⟩, q _ _ G H f (Grow.refl kn) (by simp only [Rp])⟩
end
end L3
namespace L3
open PySem PySem.Spec PyProof.Rows L2
/-! ### the deck: [cells, count] at d, its cells at c; the state bounds the count -/
structure DkAt (d c : Addr) (m : Nat) (H : Hp) : Prop where
  ex : ∃ (n : Int) (ns : List Int), H d = some (.lst [.ref c, .int n]) ∧ H c = some (.lst (ns.map V.int)) ∧ 0 ≤ n ∧ n ≤ m ∧ ns.length ≤ 63 ∧ ∀ z ∈ ns, 0 ≤ z
@[reducible] def deckA (d c : Addr) (hdc : d ≠ c) : Amb where
  U := Nat
  foot := fun _ a => a = d ∨ a = c
  st := fun m G H => DkAt d c m H ∧ G d = none ∧ G c = none
  there := by
    rintro m G H ⟨⟨n, ns, h1, h2, _⟩, _⟩ a (rfl | rfl)
    · rw [h1]; simp
    · rw [h2]; simp
  stay := by
    rintro m G H G' H' ⟨⟨n, ns, h1, h2, r⟩, g1, g2⟩ _ hf hg
    exact ⟨⟨n, ns, hf _ _ (.inl rfl) h1, hf _ _ (.inr rfl) h2, r⟩, hg d (.inl rfl) g1, hg c (.inr rfl) g2⟩
/-- a drawn number: below many; the count goes up by one -/
def semDraw {d c : Addr} {h : d ≠ c} : Sem3 (deckA d c h) := fun ds (m : Nat) (Φ : D → Nat → Prop) => ∃ many : Int, ds = [.obj d, .int many] ∧ 0 < many ∧ many ≤ 2 ^ 40 ∧ m ≤ 2 ^ 40 ∧ ∀ i : Int, 0 ≤ i → i < many → Φ (.int i) (m + 1)
/-- what is drawn from: the items of a datum -/
def itemsOf : D → Option (List D)
  | .lst l => some l
  | .tup l => some l
  | .str s => some (sgs s)
  | _ => none
def semOne {d c : Addr} {h : d ≠ c} : Sem3 (deckA d c h) := fun ds (m : Nat) (Φ : D → Nat → Prop) => ∃ (x : D) (l : List D), ds = [.obj d, x] ∧ itemsOf x = some l ∧ l ≠ [] ∧ l.length ≤ 2 ^ 20 ∧ m ≤ 2 ^ 40 ∧ ∀ e ∈ l, Φ e (m + 1)
/-- the deck is made -/
def spDeck (K : PySem.W.Frag) : Sp := fun vs H Q _ => ∃ (a : Addr) (ns : List Int), vs = [.ref a] ∧ SqL K H a (ns.map V.int) ∧ ∀ (d c : Addr) (H' : Hp), d ≠ c → H d = none → H c = none → Kn H H' → DkAt d c 0 H' → Q (.ref d) H'
theorem atI_lt {l : List Int} {i : Int} (h0 : 0 ≤ i) (h1 : i < l.length) : ∃ z, L2.atI (l.map V.int) i = some (.int z) ∧ z ∈ l := by
  obtain ⟨j, rfl⟩ : ∃ j : Nat, i = j := ⟨i.toNat, by omega⟩
  have hj : j < l.length := by omega
  refine ⟨l[j], ?_, List.getElem_mem hj⟩
  refine atI_nat ?_
  rw [List.getElem?_map, List.getElem?_eq_getElem hj]
  rfl
theorem ixN_lt {n : Nat} {i : Int} (h0 : 0 ≤ i) (h1 : i < n) : ixN n i = some i.toNat := by
  unfold ixN
  rw [if_pos h0, if_pos h1]
end L3
namespace L3
open PySem PySem.Spec PyProof.Rows L2
/-! ### the arms of the operations, one by one -/
section
variable {Ψ : D → Prop} {Θ : Bool → Prop} {Λ : List D → Prop} {i j : Int} {s t : Str} {l m : List D} {d : D} {b b' : Bool}
theorem w_len_l (h : Ψ (.int l.length)) : lenW [.lst l] Ψ := h
theorem w_len_t (h : Ψ (.int l.length)) : lenW [.tup l] Ψ := h
theorem w_len_s (h1 : s.length ≤ sizeLine) (h : Ψ (.int s.length)) : lenW [.str s] Ψ := ⟨h1, h⟩
theorem w_int_i (h : Ψ (.int i)) : intW [.int i] Ψ := h
theorem w_int_b (h : Ψ (.int (if b then 1 else 0))) : intW [.bl b] Ψ := h
theorem w_tuple_l (h : Ψ (.tup l)) : tupleW [.lst l] Ψ := h
theorem w_tuple_t (h : Ψ (.tup l)) : tupleW [.tup l] Ψ := h
theorem w_list_l (h : Ψ (.lst l)) : listW [.lst l] Ψ := h
theorem w_list_t (h : Ψ (.lst l)) : listW [.tup l] Ψ := h
theorem w_add_i (h : Ψ (.int (i + j))) : addW (.int i) (.int j) Ψ := h
theorem w_add_l (h1 : l.length + m.length ≤ sizeLine) (h : Ψ (.lst (l ++ m))) : addW (.lst l) (.lst m) Ψ := ⟨h1, h⟩
theorem w_sub (h : Ψ (.int (i - j))) : subW (.int i) (.int j) Ψ := h
theorem w_mul_i (h1 : CMulW i j) (h : Ψ (.int (i * j))) : mulW (.int i) (.int j) Ψ := ⟨h1, h⟩
theorem w_mul_l (h1 : -(2 ^ 63) ≤ j) (h2 : j < 2 ^ 63) (h3 : l.length * j.toNat ≤ sizeLine) (h : Ψ (.lst (List.replicate j.toNat l).flatten)) : mulW (.lst l) (.int j) Ψ := ⟨h1, h2, h3, h⟩
theorem w_pow (h1 : CPow i j) (h : Ψ (.int (i ^ j.toNat))) : powW (.int i) (.int j) Ψ := ⟨h1, h⟩
theorem w_lt (h : Θ (decide (i < j))) : ltB (.int i) (.int j) Θ := h
theorem w_le (h : Θ (decide (i ≤ j))) : leB (.int i) (.int j) Θ := h
theorem w_gt (h : Θ (decide (j < i))) : gtB (.int i) (.int j) Θ := h
theorem w_ge (h : Θ (decide (j ≤ i))) : geB (.int i) (.int j) Θ := h
theorem w_eq_i (h : Θ (decide (i = j))) : eqB (.int i) (.int j) Θ := h
theorem w_eq_s (h : Θ (decide (s = t))) : eqB (.str s) (.str t) Θ := h
theorem w_eq_b (h : Θ (decide (b = b'))) : eqB (.bl b) (.bl b') Θ := h
theorem w_ne_i (h : Θ (!decide (i = j))) : neB (.int i) (.int j) Θ := h
theorem w_ne_s (h : Θ (!decide (s = t))) : neB (.str s) (.str t) Θ := h
theorem w_ne_b (h : Θ (!decide (b = b'))) : neB (.bl b) (.bl b') Θ := h
theorem w_tru_b (h : Θ b) : truB (.bl b) Θ := h
theorem w_tru_i (h : Θ (i != 0)) : truB (.int i) Θ := h
theorem w_tru_l (h : Θ (!l.isEmpty)) : truB (.lst l) Θ := h
theorem w_tru_t (h : Θ (!l.isEmpty)) : truB (.tup l) Θ := h
theorem w_ix_l (h1 : atI l i = some d) (h : Ψ d) : ixW (.lst l) (.int i) Ψ := ⟨d, h1, h⟩
theorem w_ix_t (h1 : atI l i = some d) (h : Ψ d) : ixW (.tup l) (.int i) Ψ := ⟨d, h1, h⟩
theorem w_ix_s {c : Nat} (h0 : s.length ≤ sizeLine) (h1 : atI s.cps.toList i = some c) (h : Ψ (.str ⟨#[c]⟩)) : ixW (.str s) (.int i) Ψ := ⟨h0, c, h1, h⟩
theorem w_it_l (h : Λ l) : itW (.lst l) Λ := h
theorem w_it_t (h : Λ l) : itW (.tup l) Λ := h
theorem w_it_s (h : Λ (sgs s)) : itW (.str s) Λ := h
end
/-- an item of a list at a place -/
theorem at_nn {α : Type} {l : List α} {i : Int} {a : α} (h0 : 0 ≤ i) (h : l[i.toNat]? = some a) : atI l i = some a := by
  obtain ⟨j, rfl⟩ : ∃ j : Nat, i = j := ⟨i.toNat, by omega⟩
  exact atI_nat h
/-! ### comprehensions in short -/
end L3
namespace L3
open PySem PySem.Spec PyProof.Rows L2
/-! ### signs of texts -/
def chr1 (c : Nat) : D := .str ⟨#[c]⟩
theorem mem_sgs {s : Str} {d : D} : d ∈ sgs s ↔ ∃ c ∈ s.cps.toList, d = chr1 c := by
  unfold sgs chr1
  rw [List.mem_map]
  constructor
  · rintro ⟨c, h, rfl⟩; exact ⟨c, h, rfl⟩
  · rintro ⟨c, h, rfl⟩; exact ⟨c, h, rfl⟩
theorem sgs_length (s : Str) : (sgs s).length = s.length := by
  unfold sgs
  rw [List.length_map, Array.length_toList]; rfl
theorem len_le {s : Str} {n : Nat} (h : s.length ≤ n) (hn : n ≤ 16777216) : s.length ≤ sizeLine := by rw [sizeLine_eq]; omega
theorem le_line {n : Nat} (hn : n ≤ 16777216) : n ≤ sizeLine := by rw [sizeLine_eq]; omega
end L3
namespace L3
open PySem PySem.Spec PyProof.Rows L2
theorem bb_len : bootBuiltins "len" = some (.builtin "len") := PySem.boot_len
theorem bb_sum : bootBuiltins "sum" = some (.builtin "sum") := by decide +kernel
theorem bb_repr : bootBuiltins "repr" = some (.builtin "repr") := by decide +kernel
theorem bb_abs : bootBuiltins "abs" = some (.builtin "abs") := by decide +kernel
theorem bb_int : bootBuiltins "int" = some (.type "int") := by decide +kernel
theorem bb_tuple : bootBuiltins "tuple" = some (.type "tuple") := by decide +kernel
theorem bb_list : bootBuiltins "list" = some (.type "list") := by decide +kernel
end L3
namespace L3
open PySem PySem.Spec PyProof.Rows L2
/-! ### the law's own def, and the end -/
def spLaw (K : PySem.W.Frag) : Sp := fun vs H Q _ => ∃ (a : Addr) (ns : List Int), vs = [.ref a] ∧ SqL K H a (ns.map V.int) ∧ ∀ H', Q (.bl true) H'
theorem pe_callG {X : Cx} {k : Nat} {nx : NX} {f : Addr} {fd : FuncData} {ps : List Str} {sp : Sp} {x : Str} {p pos : Pos} {e : Expr} {es : List Expr} {t : TA} (F : FnG X.prog X.w X.K X.mg X.base k f fd ps sp) (hK : HasK X k nx) (hh : nx.xs.hot = none) (hg : Gl X x) (hm : X.mg x = some (.ref f))
    (hk : PySem.W.keepIn X.K (.ref f) = true) (hb : Binds X.K fd ps []) (ha : PA X (e :: es) t) (hd : (x == ("__debug__" : Str)) = false) (he : starEach (e :: es) X.env = (false, eval e X.env) :: starEach es X.env) (hpl : (backTo pos (starEach es X.env)).any (·.1) = false) :
    PE X (.Call (.Name x p) (e :: es) [] pos) (tCall sp [] E0 t) := by
  refine ⟨fun pins s σ H Q I h => wpAny_Call_Name_kw (ld_glob I hg hm ?_ hd)⟩
  refine PySem.W.callWith_K (h₀ := X.base) I.ok.mod.kin hk (thn (ha.run pos pins s σ H _ I h) fun us s1 ⟨vs, H1, I1, r, z⟩ => ⟨I1.kIn, ?_⟩) he hpl
  have z : sp vs H1 Q E0 := by
    have z' : sp (vs ++ []) H1 Q E0 := z
    rw [List.append_nil] at z'
    exact z'
  have hl : us.length = ps.length := by rw [← r.length]; exact F.len _ _ _ _ z
  have hb' := hb s1 us I1.kIn (by rw [List.append_nil]; exact hl)
  rw [List.append_nil] at hb'
  refine wpAny_call (codeAny_mono (F.run X.A X.stack s1 H1 ⟨us, []⟩ us vs Q (hK.room hh) hK.gd I1.env0 hb' r z) fun rr s' hq => ?_)
  cases rr with
  | error e => exact hq.elim
  | ok fl =>
    cases fl with
    | ret u => exact I1.after hq
    | next => exact hq.elim
    | brk => exact hq.elim
    | cont => exact hq.elim
section
variable {P : Program} {w : World} {K : PySem.W.Frag} {mg : Str → Option Value} {base : Heap}
theorem law_fn {qual : Str} {st : Stmt} {f fD : Addr} {fd fdD : FuncData} {N' : List Str} {x0 x1 xD : Str} {nm : List (Str × NameKind)} {k : Nat} {rest : List Stmt} {p1 p2 p3 p4 p5 : Pos} {kd0 kd1 : NameKind} (F : Fun K "law" qual st f fd) (S : ScOk (x0 :: x1 :: N') [x0] st nm)
    (hb : defBody st = .Assign [.Name x1 p1] (.Call (.Name xD p2) [.Name x0 p3] [] p4) p5 :: rest) (h0 : Nm nm x0 kd0) (v0 : VisK kd0) (h1 : Nm nm x1 kd1) (v1 : LocK kd1) (hD : Nm nm xD .globalImplicit)
    (FD : FnG P w K mg base k fD fdD [x0] (spDeck K)) (gD : mg xD = some (.ref fD)) (bD : Binds K fdD [x0] []) (kD : PySem.W.keepIn K (.ref fD) = true)
    (body : ∀ (d c : Addr) (h : d ≠ c), RunK (sc0 P w K mg base (x0 :: x1 :: N') nm k) (deckA d c h) rest ((x0, .un) :: (x1, .dat (.obj d)) :: begin_ N' []) (0 : Nat) { nx := fun _ _ => False, rt := fun r _ => r = .bl true })
    (d1 : (xD == ("__debug__" : Str)) = false := by decide +kernel) (d2 : (x0 == ("__debug__" : Str)) = false := by decide +kernel) (d3 : (x0 == ("__classdict__" : Str)) = false := by decide +kernel) :
    FnG P w K mg base (k + 1) f fd [x0] (spLaw K) := by
  refine FnG.mk_ F S.sc (fun vs H Q E ⟨a, ns, e, _⟩ => by rw [e]; rfl) ?_
  intro cdv Ar outer s H vs Q hr hg ⟨a, ns, e, hS, q⟩
  subst e
  have hO : NmAll nm (cxOf CX0 P w K mg base (x0 :: x1 :: N') qual (defScope st) f cdv Ar outer s H E0).nox := ⟨fun y kd m => .inl (S.uq _ m), fun y kd m l => .inl rfl⟩
  have hK : HasK (cxOf CX0 P w K mg base (x0 :: x1 :: N') qual (defScope st) f cdv Ar outer s H E0).nox k ⟨nm, XS.no, true⟩ := ⟨fun _ => rfl, fun _ => hr, hg, hr.units, S.sc.nd, PassesOwn.never, takes_no, fun _ => ⟨rfl, rfl⟩, fun _ _ _ z => nomatch z⟩
  have hX : Has (sc0 P w K mg base (x0 :: x1 :: N') nm k) (cxOf CX0 P w K mg base (x0 :: x1 :: N') qual (defScope st) f cdv Ar outer s H E0).nox := ⟨k, ⟨nm, XS.no, true⟩, rfl, hO, hK⟩
  rw [hb]
  refine ⟨_, pss_cons (ps_set (i := 1) S.sc.nd rfl (h1.loc hO v1) (pe_callG FD hK rfl (hD.gl hO) gD kD bD (pa_cons (pe_var (i := 0) rfl (h0.vis hO v0) d2 d3) pa_nil) d1 rfl rfl) rfl (h1.fn hO v1)) (pss_of hX rest), ?_⟩
  refine ⟨.ref a, rfl, a, ns, rfl, hS, fun d c H' ne hd hc kn dk => ?_⟩
  refine body d c ne ⟨fun _ => none, noFoot⟩ H (fun _ => none) H' _ _ ⟨⟨Kn.refl _, fun _ _ z => (by cases z), fun b o _ z => kn b o z, fun b z => ?_, fun b z n => absurd z n, ?_⟩, Lnk.no rfl, ⟨dk, rfl, rfl⟩, ?_, fun _ => 0, ?_, ?_⟩ ⟨fun _ _ _ _ _ z => z.elim, fun _ _ _ _ _ z => z.elim, fun _ _ _ _ _ z => z.elim, ?_⟩
  · cases w : H b with
    | none => exact absurd w z
    | some o => rw [kn b o w]; simp
  · rintro b (rfl | rfl)
    · exact .inr hd
    · exact .inr hc
  · show (x0 :: x1 :: (begin_ N' []).map (·.1)).Nodup
    rw [begin_names]
    exact S.sc.nd
  · intro y sl m
    rcases List.mem_cons.mp m with z | m
    · obtain ⟨rfl, rfl⟩ := Prod.mk.inj z
      exact ⟨0, rfl, trivial⟩
    rcases List.mem_cons.mp m with z | m
    · obtain ⟨rfl, rfl⟩ := Prod.mk.inj z
      exact ⟨1, rfl, .ref d, rfl, by simp only [Rp]⟩
    · obtain ⟨i, e1, e2⟩ := begin_mem N' [] y sl m
      refine ⟨i + 2, e1, ?_⟩
      rcases e2 with rfl | ⟨d', _, e2⟩
      · trivial
      · simp at e2
  · intro y z sl t m1 m2 o1
    rcases List.mem_cons.mp m1 with w | m
    · obtain ⟨rfl, rfl⟩ := Prod.mk.inj w
      exact o1.elim
    rcases List.mem_cons.mp m with w | m
    · obtain ⟨rfl, rfl⟩ := Prod.mk.inj w
      exact o1.elim
    · obtain ⟨i, e1, e2⟩ := begin_mem N' [] y sl m
      rcases e2 with rfl | ⟨d', rfl, e2⟩ <;> exact o1.elim
  · rintro r u' v G1 H1 rfl g s' r'
    simp only [Rp] at r'
    subst r'
    exact q H1
end
end L3
namespace L3
open PySem PySem.Spec PyProof.Rows L2
/-! ### slices -/
def cutL {α : Type} (xs : List α) (lo hi : Option Int) : List α := (xs.drop (HT.sIx xs.length 0 lo)).take (HT.sIx xs.length xs.length hi - HT.sIx xs.length 0 lo)
theorem RpA.cut {K : PySem.W.Frag} {G : Hp} {ds : List D} {xs : List V} (h : RpA K G ds xs) (lo hi : Option Int) : RpA K G (cutL ds lo hi) (cutV xs lo hi) := by
  unfold cutL cutV
  rw [h.len]
  exact (h.drop _).take _
def slW : D → Option Int → Option Int → (D → Prop) → Prop
  | .lst l, lo, hi, Ψ => Ψ (.lst (cutL l lo hi))
  | .tup l, lo, hi, Ψ => Ψ (.tup (cutL l lo hi))
  | .str s, lo, hi, Ψ => s.length ≤ sizeLine ∧ Ψ (.str (cutS s lo hi))
  | _, _, _, _ => False
def rO (C : SC) (e : Option Expr) : TO := match e with
  | none => tNoPart
  | some e => tPart (rE C e)
theorem po_of {C : SC} {X : Cx} (h : Has C X) : ∀ e : Option Expr, PO X e (rO C e)
  | none => po_none
  | some e => po_some (pe_of h e)
section
variable {C : SC} {A : Amb} {E : NE} {u : A.U} {Φ : D → A.U → Prop} {pos p p2 : Pos} {o : Expr}
def EvO (C : SC) (A : Amb) (e : Option Expr) (E : NE) (u : A.U) (Θ : Option Int → A.U → Prop) : Prop := match e with
  | none => Θ none u
  | some e => EvK C A e E u fun d u' => ∃ i, d = .int i ∧ Θ (some i) u'
def rSlD (K : PySem.W.Frag) : V → Option Int → Option Int → Hp → VK → Prop := fun x lo hi H Q => ∃ G da Ψ, Kn G H ∧ Rp K G da x ∧ slW da lo hi Ψ ∧ ∀ d v G' H', Ψ d → Grow noFoot noFoot G H G' H' → Rp K G' d v → Q v H'
theorem sl_ok {X : Cx} (hX : Has C X) : SlR X (rSlD C.K) := by
  obtain ⟨k, nm, rfl, hO, hK⟩ := hX
  intro pins s σ H x v vl vu lo hi sl Q I rx hs pl pu ⟨G, da, Ψ, kn, ra, f, q⟩
  cases da <;> try exact f.elim
  case str t =>
    simp only [Rp] at ra
    subst ra
    exact sl_str pins s σ H _ v vl vu lo hi sl Q I rx hs pl pu ⟨t, rfl, f.1, q _ _ G H f.2 (Grow.refl kn) (by simp only [Rp])⟩
  case lst l =>
    simp only [Rp] at ra
    obtain ⟨a, xs, rfl, h1, h2⟩ := ra
    refine sl_list pins s σ H _ v vl vu lo hi sl Q I rx hs pl pu ⟨a, xs, rfl, SqL.of (kn _ _ h1), fun p hp => ?_⟩
    have g : Grow noFoot noFoot G H (upd G p (.lst (cutV xs lo hi))) (upd H p (.lst (cutV xs lo hi))) := Grow.new kn hp
    exact q _ _ _ _ f g (by simp only [Rp]; exact ⟨p, _, rfl, upd_same, (h2.cut lo hi).mono g.gg⟩)
  case tup l =>
    simp only [Rp] at ra
    obtain ⟨a, xs, rfl, h1, h2⟩ := ra
    refine sl_tupA pins s σ H _ v vl vu lo hi sl Q I rx hs pl pu ⟨a, xs, rfl, kn.sqT h1, fun e => ?_, fun _ p hp => ?_⟩
    · have e2 : cutL l lo hi = l := by
        unfold cutL
        rw [← h2.len, e.1, e.2, Nat.sub_zero, List.drop_zero, h2.len, List.take_length]
      exact q _ _ G H f (Grow.refl kn) (by rw [e2]; simp only [Rp]; exact ⟨a, xs, rfl, h1, h2⟩)
    · have g : Grow noFoot noFoot G H (upd G p (.tup (cutV xs lo hi))) (upd H p (.tup (cutV xs lo hi))) := Grow.new kn hp
      exact q _ _ _ _ f g (by simp only [Rp]; exact ⟨p, _, rfl, .inl (.inl upd_same), (h2.cut lo hi).mono g.gg⟩)
theorem k_sl {lo hi : Option Expr} (h : EvK C A o E u fun d u1 => EvO C A lo E u1 fun l u2 => EvO C A hi E u2 fun r u3 => slW d l r fun d' => Φ d' u3) : EvK C A (.Subscript o (.Slice lo hi none p2) pos) E u Φ := by
  refine EvK.of (tSl (rSlD C.K) (rE C o) (rO C lo) (rO C hi)) (fun X hX => pe_slice (sl_ok hX) (pe_of hX o) (po_of hX lo) (po_of hX hi)) fun G0 H0 G H σ he Q q => ?_
  have part : ∀ (e : Option Expr) (u1 : A.U) (Θ : Option Int → A.U → Prop) (G1 H1 : Hp), EvO C A e E u1 Θ → Env C A G0 H0 u1 G1 H1 E σ → ∀ R : Option Int → Hp → Prop, (∀ i u2 G2 H2, Θ i u2 → Grow (A.foot u1) (A.foot u2) G1 H1 G2 H2 → A.st u2 G2 H2 → R i H2) → rO C e σ H1 R := by
    intro e u1 Θ G1 H1 h1 he1 R k
    cases e with
    | none => exact k none u1 G1 H1 h1 (Grow.refl he1.kn) he1.st
    | some e =>
      refine h1 G0 H0 G1 H1 σ he1 _ fun d u2 v G2 H2 ⟨i, ed, p1⟩ g st r => ?_
      subst ed
      simp only [Rp] at r
      exact ⟨i, r, k _ u2 G2 H2 p1 g st⟩
  refine h G0 H0 G H σ he _ fun d u1 v G1 H1 p1 g1 s1 r1 => ?_
  refine part lo u1 _ G1 H1 p1 (he.go g1 s1) _ fun l u2 G2 H2 p2 g2 s2 => ?_
  refine part hi u2 _ G2 H2 p2 ((he.go g1 s1).go g2 s2) _ fun r u3 G3 H3 p3 g3 s3 => ?_
  exact ⟨G3, d, _, g3.gh, r1.mono (g2.gg.trans g3.gg), p3, fun d' v' G4 H4 h4 g4 r4 => q d' u3 v' G4 H4 h4 (((g1.trans g2).trans g3).trans g4.weak) (A.grow s3 g4) r4⟩
theorem o_none {Θ : Option Int → A.U → Prop} (h : Θ none u) : EvO C A none E u Θ := h
theorem o_some {e : Expr} {Θ : Option Int → A.U → Prop} (h : EvK C A e E u fun d u' => ∃ i, d = .int i ∧ Θ (some i) u') : EvO C A (some e) E u Θ := h
theorem w_sl_l {l : List D} {lo hi : Option Int} {Ψ : D → Prop} (h : Ψ (.lst (cutL l lo hi))) : slW (.lst l) lo hi Ψ := h
theorem w_sl_t {l : List D} {lo hi : Option Int} {Ψ : D → Prop} (h : Ψ (.tup (cutL l lo hi))) : slW (.tup l) lo hi Ψ := h
/-! ### comprehensions that draw -/
end
/-! ### stores of several names at once -/
theorem two_none (f : Expr → Option Str) (a b : Expr) (h : f a = none ∨ f b = none) : ([a, b].filterMap f).length ≠ 2 := by
  rw [List.filterMap_cons, List.filterMap_cons, List.filterMap_nil]
  rcases h with h | h <;> rw [h] <;> dsimp only
  · split <;> simp
  · split <;> simp
theorem sw_none {X : Cx} {nm : List (Str × NameKind)} (hO : NmAll nm X) {x y : Str} {px py pt : Pos} {kt : Nat} {e : Expr} (h : Nm nm x .cell ∨ Nm nm y .cell) : swappedStores [.Tuple [.Name x px, .Name y py] kt pt] e X.env = pure none := by
  have key : ∀ z : Str, Nm nm z .cell → X.env.kindOf z = some .cell := fun z n => by
    rcases hO.1 z _ n.mem with q | ⟨q, _⟩
    · exact q
    · cases q
  unfold swappedStores
  cases e <;> try rfl
  case Tuple vs k2 p2 =>
    simp only []
    split
    · rfl
    · split
      · rfl
      · split
        · rfl
        · rename_i h3
          refine absurd ?_ h3
          rw [Bool.or_eq_true]
          left
          rw [bne_iff_ne]
          refine two_none _ _ _ ?_
          rcases h with h | h
          · left
            show (if (X.env.kindOf x == some NameKind.local && _) = true then some x else none) = none
            rw [key x h]
            rfl
          · right
            show (if (X.env.kindOf y == some NameKind.local && _) = true then some y else none) = none
            rw [key y h]
            rfl
section
variable {C : SC} {A : Amb} {E : NE} {u : A.U} {P : Post A} {pos p : Pos}
/-- a, b = e where one of the names is a cell's -/
theorem s_unpC {x y : Str} {px py : Pos} {j : Nat} {e : Expr} {xs : List Str} (hc : Nm C.nm x .cell ∨ Nm C.nm y .cell) (h : EvK C A e E u fun d u' => TgK C A (.Tuple [.Name x px, .Name y py] j p) d E u' xs fun E' => P.nx E' u')
    (hs : ∀ env, swapsWithSole [.Tuple [.Name x px, .Name y py] j p] e pos.line env = pure false := by intro _; rfl) : StK C A (.Assign [.Tuple [.Name x px, .Name y py] j p] e pos) E u P :=
  s_unp h hs fun X hX => by
    obtain ⟨k, nm, rfl, hO, hK⟩ := hX
    exact sw_none hO hc
theorem tg_two [hh : Cold C] {a b : Expr} {j : Nat} {d1 d2 : D} {xs ys : List Str} {Θ : NE → Prop} (h : TgK C A a d1 E u xs fun E1 => TgK C A b d2 E1 u ys Θ)
    (hc : ∀ X, Has C X → ∀ (g : TG) (gs : TGs), PG X a g → PGs X [b] gs → PGs X [a, b] (gCons g gs) := by intro _ _ _ _ h1 h2; exact pgs_cons h1 h2) (hc2 : ∀ X, Has C X → ∀ (g : TG) (gs : TGs), PG X b g → PGs X [] gs → PGs X [b] (gCons g gs) := by intro _ _ _ _ h1 h2; exact pgs_cons h1 h2)
    (hn : ∀ env, (assignEach [a, b] env).length = 2 := by intro _; rfl) (hst : ∀ env, (assignEach [a, b] env).findIdx? (·.1) = none := by intro _; rfl) : TgK C A (.Tuple [a, b] j pos) (.tup [d1, d2]) E u (xs ++ (ys ++ [])) Θ := by
  refine tg_tup (tgs_cons ?_ hc) rfl hn hst
  intro G0 H0 G H σ v he r Q k
  refine h G0 H0 G H σ v he r Q fun E1 σ1 q1 he1 o1 => k E1 σ1 ?_ he1 o1
  refine tgs_cons ?_ hc2
  intro G0 H0 G H σ v he r Q k
  exact q1 G0 H0 G H σ v he r Q fun E2 σ2 q2 he2 o2 => k E2 σ2 (tgs_nil q2) he2 o2
end
end L3
namespace L3
open PySem PySem.Spec PyProof.Rows L2
/-! ### texts out of signs -/
end L3
namespace L3
open PySem PySem.Spec PyProof.Rows L2
/-! ### two plain names stored at once -/
def plainV : Expr → Bool
  | .Starred .. => false
  | _ => true
theorem sw_some {env : PySem.Env} {x y : Str} {px py pt pt2 : Pos} {kt k2} {a b : Expr} (hx : env.kindOf x = some .local) (hy : env.kindOf y = some .local) (hk : env.scope.kind = .function) (hp : px.line = py.line) (hxy : x ≠ y)
    (ha : plainV a = true) (hb : plainV b = true) (f1 : [a, b].all (foldedForSure 8) = false) (f2 : [a, b].all (constantsAlone 8) = false) :
    swappedStores [.Tuple [.Name x px, .Name y py] kt pt] (.Tuple [a, b] k2 pt2) env = pure (some [x, y]) := by
  have h1 : (env.blockKind != .function) = false := by unfold PySem.Env.blockKind; rw [hk]; rfl
  have h2 : ∀ f : Expr → Bool, (∀ e, plainV e = true → f e = false) → [a, b].any f = false := fun f h => by
    rw [List.any_cons, List.any_cons, List.any_nil, h a ha, h b hb]; rfl
  have h3 : ∀ g : Expr → Option Str, g (.Name x px) = some x → g (.Name y py) = some y → [Expr.Name x px, Expr.Name y py].filterMap g = [x, y] := fun g e1 e2 => by
    rw [List.filterMap_cons, e1, List.filterMap_cons, e2]; rfl
  have h4 : [x, y].eraseDups.length = 2 := by
    rw [List.eraseDups_cons, List.filter_cons, if_pos (by simpa using Ne.symm hxy), List.filter_nil]
    rfl
  unfold swappedStores
  simp only []
  rw [h1, h2 _ (by intro e he; cases e <;> first | rfl | cases he)]
  rw [h3 _ (by simp [hx]; rfl) (by simp [hy]; exact hp.symm), h4, f1, f2]
  rfl
section
variable {C : SC} {A : Amb} {E : NE} {u : A.U} {P : Post A} {pos : Pos}
theorem Nm.isLoc {X : Cx} {nm : List (Str × NameKind)} (h : NmAll nm X) {x : Str} (n : Nm nm x .local) : X.env.scope.names.lookup x = some .local := by
  rcases h.1 x _ n.mem with e | ⟨e, _⟩
  · exact e
  · cases e
theorem s_par [hh : Cold C] {x y : Str} {px py pt pt2 : Pos} {kt k2} {a b : Expr} {F : Sl → NE} {F2 : Sl → Sl → NE} (hx : Spl E x F) (hy : ∀ s, Spl (F s) y (F2 s)) (nx : Nm C.nm x .local) (ny : Nm C.nm y .local)
    (h : EvA C A [a, b] E u fun ds u' => ∃ d1 d2, ds = [d1, d2] ∧ P.nx (F2 (.dat d1) (.dat d2)) u')
    (hp : px.line = py.line := by rfl) (hxy : x ≠ y := by decide +kernel) (ha : plainV a = true := by rfl) (hb : plainV b = true := by rfl) (f1 : [a, b].all (foldedForSure 8) = false := by rfl) (f2 : [a, b].all (constantsAlone 8) = false := by rfl)
    (hs : ∀ env, swapsWithSole [.Tuple [.Name x px, .Name y py] kt pt] (.Tuple [a, b] k2 pt2) pos.line env = pure false := by intro _; rfl) : StK C A (.Assign [.Tuple [.Name x px, .Name y py] kt pt] (.Tuple [a, b] k2 pt2) pos) E u P := by
  intro G0 H0 G H σ Ds he S X pins s hX I
  obtain ⟨k, nm, rfl, hO, hK⟩ := id hX
  obtain ⟨i, hi⟩ := he.ix hx
  have lx := nx.isLoc hO
  have ly := ny.isLoc hO
  obtain ⟨j, hj⟩ : ∃ j : Nat, X.N[j]? = some y := by
    obtain ⟨h1, h2, ⟨t, h3⟩, h4⟩ := (hy .un).spec .un
    rcases (hx.spec .un).2.2.2 _ h3 with e | e
    · exact absurd (Prod.mk.inj e).1.symm hxy
    · obtain ⟨α, e1, _⟩ := he.ent
      obtain ⟨j, h, _⟩ := e1 y t e
      exact ⟨j, h⟩
  have hij : i ≠ j := fun z => by subst z; exact hxy (Option.some.inj (hi.symm.trans hj))
  refine (ps_par (i := i) (j := j) (hK.calm hh.h) hK.nd hi hj hij lx ly (pa_of hX [a, b]) (sw_some lx ly I.ok.kind hp hxy ha hb f1 f2) (hs X.env)).run pins s σ H Ds I ?_
  refine h G0 H0 G H σ he _ fun ds u' vs G' H' ⟨d1, d2, eds, q⟩ g st r => ?_
  subst eds
  rw [RpA.cons_iff] at r
  obtain ⟨v, r2, rfl, r1, r⟩ := r
  obtain ⟨w, rfl, r2⟩ := rpa1 r
  refine ⟨v, w, rfl, ?_⟩
  refine S.nx _ u' G' H' _ q ?_
  have he2 := (he.go g st).put hx hi I.len hK.nd r1
  exact he2.put (hy (.dat d1)) hj (by rw [List.length_set]; exact I.len) hK.nd r2
end
/-! ### repr of small things -/
theorem lg12 {n : Nat} (h : n < 10 ^ 12) : n.log2 < 40 := by
  by_cases z : n = 0
  · subst z; decide
  · refine (Nat.log2_lt z).mpr (Nat.lt_of_lt_of_le h (by decide))
end L3
namespace L3
open PySem PySem.Spec PyProof.Rows L2
section
variable {C : SC} {A : Amb} {E : NE} {u : A.U} {P P2 : Post A} {pos : Pos} {Φ : D → A.U → Prop}
/-- a loop that may return, with what a return asks told apart -/
theorem s_forR [hh : Cold C] {tg iter : Expr} {body : List Stmt} {xs : List Str} (R0 : D → A.U → Prop) (hR : ∀ d u, R0 d u → P.rt d u) (h : EvI C A tg iter E u fun ds u1 => ∃ I : Nat → NE → A.U → Prop, I 0 E u1 ∧
      (∀ k d E' u', ds[k]? = some d → I k E' u' → TgK C A tg d E' u' xs fun E2 => RunK C A body E2 u' { nx := I (k + 1), ct := I (k + 1), bk := fun _ _ => False, rt := R0 }) ∧ ∀ E' u', I ds.length E' u' → P.nx E' u')
    (hs : ∀ env x, foldedSetIterable iter env x = pure x := by intro _ _; rfl) : StK C A (.For tg iter body [] pos) E u P := by
  refine s_for (xs := xs) ?_ hs
  intro G0 H0 G H σ he R k
  refine h G0 H0 G H σ he R fun ds u1 J G1 H1 ⟨I, h1, h2, h3⟩ => k ds u1 J G1 H1 ⟨I, h1, fun i d E' u' hd hi => ?_, h3⟩
  intro G0 H0 G H σ v he r Q kk
  exact h2 i d E' u' hd hi G0 H0 G H σ v he r Q fun E2 σ2 q => kk E2 σ2 (q.imp (fun _ _ => id) (fun _ _ z => z.elim) (fun _ _ => id) hR)
end
end L3
namespace L3
open PySem PySem.Spec PyProof.Rows L2
section
variable {C : SC} {A : Amb} {E Eb : NE} {u : A.U} {pos p : Pos} {elt tg iter c : Expr} {scope : Scope} {xs : List Str} {ifs : List Expr}
/-- a comprehension's run, as a value or stored at once -/
def LcN (C : SC) (A : Amb) (elt tg iter : Expr) (ifs : List Expr) (scope : Scope) (E : NE) (u : A.U) (Φ : List D → A.U → Prop) : Prop :=
  ∀ X, Has C X → ∀ G0 H0 G H σ, Env C A G0 H0 u G H E σ → σ.length = X.N.length → ∀ Q : VK, (∀ ds u' p xs G' H', Φ ds u' → Grow (A.foot u) (A.foot u') G H G' H' → A.st u' G' H' → H p = none → G' p = none → ¬ A.foot u' p → H' p = some (.lst xs) → RpA C.K G' ds xs → Q (.ref p) H') →
    ∃ own : List (Str × Nat), BlkOk X.N X.env.scope scope own ∧ tLc (rI C tg iter) (rG (C.blk scope) tg) (rTs (C.blk scope) ifs) (rE (C.blk scope) elt) (own.map (·.2)) σ H Q
theorem n_l [hh : Cold C] {Φ : List D → A.U → Prop} (h : LcN C A elt tg iter ifs scope E u Φ) (hs : ∀ env x, foldedSetIterable iter env x = pure x := by intro _ _; rfl) : EvN C A (.ListComp elt [⟨tg, iter, ifs, 0⟩] scope pos) E u Φ := by
  intro G0 H0 G H σ he Q q X pins s hX I
  obtain ⟨own, bo, z⟩ := h X hX G0 H0 G H σ he I.len Q q
  obtain ⟨j, nm, rfl, hO, hK⟩ := id hX
  exact (pe_lc (own := own) (hK.calm hh.h) hK.nd (pi_of hX tg iter) bo (fun s H D cl fp => pg_of (hX.blk bo s H D cl fp) tg)
    (tt := rTs ((stat X j nm).blk scope) ifs) (fun s H D cl fp => ⟨fun pins s σ H Q I z => z _ pins s (hX.blk bo _ _ _ _ _) I⟩) (fun s H D cl fp => pe_of (hX.blk bo s H D cl fp) elt) (hs X.env)).run pins s σ H Q I z
/-- the list stored is a datum -/
theorem s_setLc [hh : Cold C] {P : Post A} {x : Str} {spos : Pos} {F : Sl → NE} (hx : Spl E x F) (hn : Nm C.nm x .local) (h : LcN C A elt tg iter ifs scope E u fun l u' => P.nx (F (.dat (.lst l))) u') (hl : (p.line == pos.line) = true := by rfl)
    (ha : (scope.names.any fun (n, k) => n == x && (k == .local || k == .cell)) = false := by decide +kernel) (hs : ∀ env x, foldedSetIterable iter env x = pure x := by intro _ _; rfl) : StK C A (.Assign [.Name x p] (.ListComp elt [⟨tg, iter, ifs, 0⟩] scope pos) spos) E u P := by
  intro G0 H0 G H σ Ds he S X pins s hX I
  obtain ⟨i, hi⟩ := he.ix hx
  obtain ⟨own, bo, z⟩ := h X hX G0 H0 G H σ he I.len (fun x H1 => gName i x σ H1 Ds.nx) fun l u' p xs G' H' k g st h1 h2 h3 h4 h5 => by
    obtain ⟨j, nm, rfl, hO, hK⟩ := id hX
    have kn : Kn G' (upd G' p (.lst xs)) := Kn.new h2
    have g2 : Grow (A.foot u) (A.foot u') G H (upd G' p (.lst xs)) H' := by
      refine ⟨g.gg.trans kn, fun a o e => ?_, g.hh, g.th, fun a e n => ?_, g.ff⟩
      · by_cases z : a = p
        · subst z; rw [upd_same] at e; cases e; exact h4
        · rw [upd_ne z] at e; exact g.gh a o e
      · by_cases z : a = p
        · subst z; exact h1
        · rw [upd_ne z] at n; exact g.fr a e n
    have st2 : A.st u' (upd G' p (.lst xs)) H' := A.stay u' G' H' _ H' st kn (fun _ _ _ e => e) fun a f e => by
      rw [upd_ne (show a ≠ p from fun z => h3 (by rw [← z]; exact f))]; exact e
    exact S.nx _ u' _ H' _ k ((he.go g2 st2).put hx hi I.len hK.nd (by simp only [Rp]; exact ⟨p, xs, rfl, upd_same, h5.mono kn⟩))
  obtain ⟨j, nm, rfl, hO, hK⟩ := id hX
  exact (ps_setLc (own := own) (i := i) (hK.calm hh.h) hK.nd hi (hn.isLoc hO) (sw_true I.ok.kind (hn.isLoc hO) hl ha) (pi_of hX tg iter) bo (fun s H D cl fp => pg_of (hX.blk bo s H D cl fp) tg)
    (tt := rTs ((stat X j nm).blk scope) ifs) (fun s H D cl fp => ⟨fun pins s σ H Q I z => z _ pins s (hX.blk bo _ _ _ _ _) I⟩) (fun s H D cl fp => pe_of (hX.blk bo s H D cl fp) elt) (hs X.env)).run pins s σ H Ds I z
theorem l_lc {Φ : List D → A.U → Prop} (hw : Wip E xs Eb) (hb : blkB C.N C.nm scope xs = true) (h : EvI C A tg iter E u fun ds u1 => ∃ I : Nat → List D → A.U → Prop, I 0 [] u1 ∧
      (∀ k d acc u', ds[k]? = some d → I k acc u' → TgK (C.blk scope) A tg d Eb u' xs fun E2 => EvTs (C.blk scope) A ifs E2 u' fun t u2 => Br t (EvK (C.blk scope) A elt E2 u2 fun r u3 => acc.length < sizeLine ∧ I (k + 1) (acc ++ [r]) u3) (I (k + 1) acc u2)) ∧
      ∀ acc u', I ds.length acc u' → Φ acc u') : LcN C A elt tg iter ifs scope E u Φ := by
  intro X hX G0 H0 G H σ he hlen Q q
  obtain ⟨j, nm, rfl, hO, hK⟩ := id hX
  obtain ⟨own, o1, o2, o3⟩ := he.wip hw hK.nd
  have bo : BlkOk X.N X.env.scope scope own := blkB.ok hb hO.1 o1 o2
  refine ⟨own, bo, ?_⟩
  refine h G0 H0 G H σ he _ fun ds u1 J G1 H1 ⟨Iv, i0, step, fin⟩ g1 st1 y => ?_
  intro L hL
  have he1 := he.go g1 st1
  have nG1 : G1 L = none := g1.gh.back hL
  have nF : ¬ A.foot u1 L := fun f => A.there _ _ _ st1 L f hL
  refine ⟨fun i m Hx => ∃ u' G' acc vs, m = ds.length - i ∧ i ≤ ds.length ∧ Iv i acc u' ∧ Grow (A.foot u1) (A.foot u') G1 H1 G' Hx ∧ A.st u' G' Hx ∧ Hx L = some (.lst vs) ∧ (G' L = none ∧ ¬ A.foot u' L) ∧ RpA X.K G' acc vs, ⟨ds.length, u1, G1, [], [], by simp, Nat.zero_le _, i0, ?_, ?_, upd_same, ⟨nG1, nF⟩, RpA.nil_iff.mpr rfl⟩, ?_⟩
  · exact (Grow.own g1.gh hL).weak
  · exact A.grow st1 (Grow.own g1.gh hL)
  rintro i m Hx ⟨u', G', acc, vs, rfl, hi, iv, g2, st2, hLx, ⟨nG', nF'⟩, rv⟩
  by_cases hlt : i < ds.length
  · refine .inr ⟨y.go i G' Hx g2.gg g2.gh hlt, fun Hy => ∃ u' G' acc vs, Iv (i + 1) acc u' ∧ Grow (A.foot u1) (A.foot u') G1 H1 G' Hy ∧ A.st u' G' Hy ∧ Hy L = some (.lst vs) ∧ (G' L = none ∧ ¬ A.foot u' L) ∧ RpA X.K G' acc vs, fun Hy ⟨u3, G3, acc3, vs3, z⟩ => ⟨ds.length - (i + 1), by omega, u3, G3, acc3, vs3, rfl, hlt, z⟩, fun x H3 hy => ?_⟩
    obtain ⟨d, G3, hd, g3, r3⟩ := y.yld i G' Hx x H3 g2.gg g2.gh hlt hy
    have g3' : Grow (A.foot u1) (A.foot u') G1 H1 G3 H3 := g2.trans g3.weak
    have st3 := A.grow st2 g3
    have keep : ∀ {ua ub : A.U} {Ga Ha Gb Hb : Hp} {vs : List V}, Ha L = some (.lst vs) → Ga L = none → ¬ A.foot ua L → Grow (A.foot ua) (A.foot ub) Ga Ha Gb Hb → Hb L = some (.lst vs) ∧ Gb L = none ∧ ¬ A.foot ub L := fun {ua ub Ga Ha Gb Hb vs} z1 z2 z4 z3 => by
      refine ⟨z3.hh _ _ z4 z1, ?_, fun f => ?_⟩
      · cases w : Gb L with
        | none => rfl
        | some o => rw [z3.fr L z2 (by rw [w]; simp)] at z1; cases z1
      · rcases z3.ff L f with w | w
        · exact z4 w
        · rw [w] at z1; cases z1
    obtain ⟨hL3, nG3, nF3⟩ := keep (ub := u') hLx nG' nF' g3.weak
    have eb := o3 ((stat X j nm).blk scope) u' G3 H3 rfl rfl rfl (he1.go g3' st3)
    refine step i d acc u' hd iv G0 H0 G3 H3 _ x eb r3 _ fun E4 σ4 q4 he4 on => ⟨?_, ?_⟩
    · refine wipe_eq (N := X.N) hlen ?_ (fun i x e n => ?_) hK.nd o2
      · rw [on.1, wipe_length]
      · exact on.2 i x e (by rw [← o1]; exact n)
    refine q4 G0 H0 G3 H3 σ4 he4 _ fun t u5 G5 H5 p5 g5 st5 => ?_
    obtain ⟨hL5, nG5, nF5⟩ := keep hL3 nG3 nF3 g5
    cases t with
    | false => exact iteF ⟨u5, G5, acc, vs, p5.2 rfl, g3'.trans g5, st5, hL5, ⟨nG5, nF5⟩, rv.mono (g3.gg.trans g5.gg)⟩
    | true =>
      refine iteT (p5.1 rfl G0 H0 G5 H5 σ4 (he4.go g5 st5) _ fun r u6 v G6 H6 ⟨hz, p6⟩ g6 st6 r6 => ?_)
      obtain ⟨hL6, nG6, nF6⟩ := keep hL5 nG5 nF5 g6
      have gg6 : Grow (A.foot u1) (A.foot u6) G1 H1 G6 H6 := (g3'.trans g5).trans g6
      have rv6 := rv.mono ((g3.gg.trans g5.gg).trans g6.gg)
      refine ⟨vs, hL6, by rw [rv.len]; exact hz, u6, G6, acc ++ [r], vs ++ [v], p6, ?_, ?_, upd_same, ⟨nG6, nF6⟩, rv6.append (RpA.one r6)⟩
      · refine ⟨gg6.gg, fun a o e => ?_, fun a o n e => ?_, fun a e => ?_, gg6.fr, gg6.ff⟩
        · rw [upd_ne (ne_of_none e nG6)]; exact gg6.gh a o e
        · rw [upd_ne (ne_of_none e hL)]; exact gg6.hh a o n e
        · by_cases z : a = L
          · subst z; rw [upd_same]; simp
          · rw [upd_ne z]; exact gg6.th a e
      · exact A.stay u6 G6 H6 G6 _ st6 (Kn.refl _) (fun a o f e => by rw [upd_ne (show a ≠ L from fun z => nF6 (by rw [← z]; exact f))]; exact e) fun a f e => e
  · obtain rfl : i = ds.length := by omega
    refine .inl ⟨y.stop _ G' Hx g2.gg g2.gh (Nat.le_refl _), q acc u' L vs G' Hx (fin acc u' iv) (g1.trans g2) st2 ?_ nG' nF' hLx rv⟩
    cases w : H L with
    | none => rfl
    | some o => exact absurd hL (g1.th L (by rw [w]; simp))
/-- [e for x in xs], each turn told by itself, the state as it was -/
theorem l_map {Φ : List D → A.U → Prop} {x : Str} {kd : NameKind} {F : Sl → NE} (hw : Wip E [x] Eb) (hb : blkB C.N C.nm scope [x] = true) (hx : Spl Eb x F) (hn : Nm scope.names x kd) (hk : LocK kd)
    (h : EvI C A (.Name x p) iter E u fun ds u1 => ∃ f : D → D, ds.length ≤ 10000000 ∧ (∀ d ∈ ds, EvK (C.blk scope) A elt (F (.dat d)) u1 fun r u2 => r = f d ∧ u2 = u1) ∧ Φ (ds.map f) u1) : LcN C A elt (.Name x p) iter [] scope E u Φ := by
  refine l_lc hw hb ?_
  intro G0 H0 G H σ he R k
  refine h G0 H0 G H σ he R fun ds u1 J G1 H1 ⟨f, hl, he1, hf⟩ => k ds u1 J G1 H1 ⟨fun i acc u' => acc = (ds.take i).map f ∧ u' = u1, ⟨by simp, rfl⟩, ?_, ?_⟩
  · rintro i d acc u' hd ⟨rfl, rfl⟩
    refine tg_name hx hn hk ?_
    refine ts_nil (Br.t ?_)
    refine (he1 d (List.mem_of_getElem? hd)).imp ?_
    rintro r u2 ⟨rfl, rfl⟩
    have hi : i < ds.length := (List.getElem?_eq_some_iff.mp hd).1
    refine ⟨?_, ?_, rfl⟩
    · rw [List.length_map, List.length_take, sizeLine_eq]; omega
    · rw [List.take_add_one, hd, List.map_append]; rfl
  · rintro acc u' ⟨rfl, rfl⟩
    rw [List.take_length]
    exact hf
/-- [x for x in xs if t] and its kin -/
theorem l_filter {Φ : List D → A.U → Prop} {x : Str} {kd : NameKind} {F : Sl → NE} (hw : Wip E [x] Eb) (hb : blkB C.N C.nm scope [x] = true) (hx : Spl Eb x F) (hn : Nm scope.names x kd) (hk : LocK kd)
    (h : EvI C A (.Name x p) iter E u fun ds u1 => ∃ (t : D → Bool) (f : D → D), ds.length ≤ 10000000 ∧ (∀ d ∈ ds, EvT (C.blk scope) A c (F (.dat d)) u1 fun b u2 => b = t d ∧ u2 = u1) ∧
      (∀ d ∈ ds, t d = true → EvK (C.blk scope) A elt (F (.dat d)) u1 fun r u2 => r = f d ∧ u2 = u1) ∧ Φ ((ds.filter t).map f) u1) : LcN C A elt (.Name x p) iter [c] scope E u Φ := by
  refine l_lc hw hb ?_
  intro G0 H0 G H σ he R k
  refine h G0 H0 G H σ he R fun ds u1 J G1 H1 ⟨t, f, hl, ht, he1, hf⟩ => k ds u1 J G1 H1 ⟨fun i acc u' => acc = ((ds.take i).filter t).map f ∧ u' = u1, ⟨by simp, rfl⟩, ?_, ?_⟩
  · rintro i d acc u' hd ⟨rfl, rfl⟩
    have hm := List.mem_of_getElem? hd
    have hi : i < ds.length := (List.getElem?_eq_some_iff.mp hd).1
    have next : (ds.take (i + 1)).filter t = (ds.take i).filter t ++ (if t d = true then [d] else []) := by
      rw [List.take_add_one, hd, List.filter_append]
      show _ ++ List.filter t [d] = _
      rw [List.filter_cons]
      rfl
    refine tg_name hx hn hk ?_
    refine ts_one ((ht d hm).imp ?_)
    rintro b u2 ⟨rfl, rfl⟩
    refine ⟨fun hb => ?_, fun hb => ⟨?_, rfl⟩⟩
    · refine (he1 d hm hb).imp ?_
      rintro r u3 ⟨rfl, rfl⟩
      refine ⟨?_, ?_, rfl⟩
      · have := List.length_filter_le t (ds.take i)
        rw [List.length_take] at this
        rw [List.length_map, sizeLine_eq]; omega
      · rw [next, if_pos hb, List.map_append]; rfl
    · rw [next, if_neg (by rw [hb]; decide), List.append_nil]
  · rintro acc u' ⟨rfl, rfl⟩
    rw [List.take_length]
    exact hf
theorem l_draw {d c : Addr} {hdc : d ≠ c} {elt iter : Expr} {scope : Scope} {m : Nat} {Eb : NE} {Φ : List D → Nat → Prop} {x : Str} {kd : NameKind} {F : Sl → NE} (hw : Wip E [x] Eb) (hb : blkB C.N C.nm scope [x] = true) (hx : Spl Eb x F) (hn : Nm scope.names x kd) (hk : LocK kd)
    (h : EvI C (deckA d c hdc) (.Name x p) iter E m fun ds (m1 : Nat) => ∃ (R : Nat → D → Prop) (z : Nat), ds.length ≤ 10000000 ∧
      (∀ (k : Nat) (e : D) (m' : Nat), ds[k]? = some e → m' ≤ m1 + k * z → EvK (C.blk scope) (deckA d c hdc) elt (F (.dat e)) m' fun r (m2 : Nat) => R k r ∧ m2 ≤ m' + z) ∧
      ∀ (rs : List D) (m' : Nat), rs.length = ds.length → (∀ (k : Nat) (r : D), rs[k]? = some r → R k r) → m' ≤ m1 + ds.length * z → Φ rs m') : LcN C (deckA d c hdc) elt (.Name x p) iter [] scope E m Φ := by
  refine l_lc hw hb ?_
  intro G0 H0 G H σ he R0 k
  refine h G0 H0 G H σ he R0 fun ds m1 J G1 H1 ⟨R, z, hl, he1, hf⟩ => k ds m1 J G1 H1 ⟨fun i acc (m' : Nat) => acc.length = i ∧ (∀ (k : Nat) (r : D), acc[k]? = some r → R k r) ∧ m' ≤ (show Nat from m1) + i * z, ⟨rfl, by simp, Nat.le_add_right _ _⟩, ?_, ?_⟩
  · rintro i e acc m' hd ⟨h1, h2, h3⟩
    refine tg_name hx hn hk ?_
    refine ts_nil (Br.t ?_)
    refine (he1 i e m' hd h3).imp ?_
    rintro r m2 ⟨hr, hm⟩
    have hi : i < ds.length := (List.getElem?_eq_some_iff.mp hd).1
    refine ⟨by rw [h1, sizeLine_eq]; omega, by rw [List.length_append, h1]; rfl, fun j r' hj => ?_, ?_⟩
    · by_cases e' : j < acc.length
      · rw [List.getElem?_append_left e'] at hj
        exact h2 j r' hj
      · rw [List.getElem?_append_right (by omega)] at hj
        have : j = i := by
          have := (List.getElem?_eq_some_iff.mp hj).1
          simp at this
          omega
        subst this
        rw [h1, Nat.sub_self] at hj
        cases hj
        exact hr
    · have := Nat.add_mul i 1 z
      omega
  · rintro acc m' ⟨h1, h2, h3⟩
    exact hf acc m' h1 h2 h3
end
end L3
namespace L3
open PySem PySem.Spec PyProof.Rows L2
theorem br_neq {α : Type} [DecidableEq α] {x y : α} {X Y : Prop} (e : x = y) (h : Y) : Br (!decide (x = y)) X Y := by
  rw [decide_eq_true e]; exact Br.f h
theorem br_same {α : Type} [DecidableEq α] {x : α} {X Y : Prop} (h : Y) : Br (!decide (x = x)) X Y := br_neq rfl h
end L3
namespace L3
open PySem PySem.Spec PyProof.Rows L2
section
variable {C : SC} {A : Amb} {E : NE} {u : A.U}
theorem r_consC {s : Stmt} {rest : List Stmt} {nx : NE → A.U → Prop} {rt : D → A.U → Prop} {bk ct : NE → A.U → Prop} (h : StK C A s E u ⟨fun E' u' => RunK C A rest E' u' ⟨nx, rt, bk, ct⟩, rt, bk, ct⟩) : RunK C A (s :: rest) E u ⟨nx, rt, bk, ct⟩ := r_cons h
end
end L3
namespace ZZ
open PySem
open PySem.Sem (wp)
/-! ### zip over a list or a tuple, each -/
/-- the sequence: a tuple or a list -/
def Sq (b : Bool) (h : Heap) (l : Addr) (xs : Array Value) : Prop := match b with
  | true => h.IsTuple l xs
  | false => h.IsList l xs
/-- its iterator, ahead of the i-th item -/
def Cu (b : Bool) (h : Heap) (it l : Addr) (i : Nat) : Prop := match b with
  | true => h.IsTupleIter it l i
  | false => h.IsListIter it l i
def itName (b : Bool) : String := if b then "tuple_iterator" else "list_iterator"
def itObj (b : Bool) (l : Addr) : Obj := { cls := .type (itName b), data := .fields #[.ref l, .int 0 0] }
variable {ka kb : Bool}
theorem Sq.to {b : Bool} {h h' : Heap} {l xs} (x : Sq b h l xs) (e : ∀ o, h.get? l = some o → h'.get? l = some o) : Sq b h' l xs := by
  cases b
  · exact Heap.IsList.at x e
  · exact Heap.IsTuple.at x e
theorem Cu.to {b : Bool} {h h' : Heap} {it l i} (x : Cu b h it l i) (e : ∀ o, h.get? it = some o → h'.get? it = some o) : Cu b h' it l i := by
  cases b
  · exact Heap.IsListIter.at x e
  · exact Heap.IsTupleIter.at x e
theorem Cu.obj {b : Bool} {h : Heap} {it l i} (x : Cu b h it l i) : ∃ o, h.get? it = some o ∧ ∀ v, o.data ≠ .cell v := by
  cases b <;> (obtain ⟨o, e, _, d⟩ := x; exact ⟨o, e, fun v q => by rw [d] at q; cases q⟩)
theorem Sq.lt {b : Bool} {h : Heap} {l xs} (x : Sq b h l xs) : l < h.objs.size := by
  cases b <;> (obtain ⟨o, e, _⟩ := x; exact Heap.lt_size e)
/-- an object, reached unchanged -/
abbrev Kp (h h' : Heap) (c : Addr) : Prop := ∀ o, h.get? c = some o → h'.get? c = some o
section
variable {prog : Program} {w : World} {A : Around} {E : Value → Shared → Prop} {s : Shared}
theorem cu_item {b : Bool} {it l : Addr} {i : Nat} {xs : Array Value} {x : Value} {Q : Value → Shared → Prop} (c : Cu b s.heap it l i) (q : Sq b s.heap l xs) (hx : xs[i]? = some x)
    (k : ∀ g, Cu b g it l (i + 1) → Heap.SameBut it s.heap g → Q x { s with heap := g }) : wpAny (model prog w) A (Builtin.SmallTypes.nextOf (.ref it)) Q E s := by
  cases b
  · exact wpAny_nextOf_list_item c q hx k
  · exact RZ.nextOf_tuple_item c q hx k
theorem cu_end {b : Bool} {it l : Addr} {i : Nat} {xs : Array Value} {Q : Value → Shared → Prop} (hh : A.handled = none) (c : Cu b s.heap it l i) (q : Sq b s.heap l xs) (hx : xs[i]? = none)
    (k : ∀ g e, Heap.ExtBut it s.heap g → (∃ o, g.get? e = some o ∧ o.cls = .type "StopIteration") → E (.ref e) { s with heap := g }) : wpAny (model prog w) A (Builtin.SmallTypes.nextOf (.ref it)) Q E s := by
  cases b
  · exact wpAny_nextOf_list_end hh c q hx k
  · exact RZ.nextOf_tuple_end hh c q hx k
/-- what a turn may change -/
structure Mv (z TO i1 i2 : Addr) (h h' : Heap) : Prop where
  go : ∀ c o, c ≠ z → c ≠ TO → c ≠ i1 → c ≠ i2 → h.get? c = some o → h'.get? c = some o
/-- a filler's run up to the two pulls -/
theorem zz_open {z TI TO i1 i2 l1 l2 : Addr} {a b : Value} {Q : Fin → Shared → Prop} (D : ZipApart z TI TO i1 i2 l1 l2) (hz : IsZip s.heap z TI TO .none) (hI : IsPair s.heap TI (.ref i1) (.ref i2)) (hO : IsPair s.heap TO a b)
    (k : ∀ g, IsZip g z TI TO .ellipsis → Heap.SameBut z s.heap g →
      wpAny (model prog w) A (Builtin.SmallTypes.nextOf (.ref i1)) (fun x t => IsPair t.heap TO a b ∧ ∀ g2, IsPair g2 TO x b → Heap.SameBut TO t.heap g2 →
        wpAny (model prog w) A (Builtin.SmallTypes.nextOf (.ref i2)) (fun y t2 => IsPair t2.heap TO x b ∧ ∀ g3, IsPair g3 TO x y → Heap.SameBut TO t2.heap g3 → IsZip g3 z TI TO .ellipsis ∧
          ∀ g4, IsZip g4 z TI TO (rawInt g3.objs.size) → IsPair g4 g3.objs.size x y → g4.objs.size = g3.objs.size + 1 → (∀ c, c ≠ z → Kp g3 g4 c) → Q (.done (.ret (.ref g3.objs.size))) { t2 with heap := g4 })
          (fun e t2 => IsZip t2.heap z TI TO .ellipsis ∧ ∀ g3, Heap.SameBut z t2.heap g3 → E e { t2 with heap := g3 }) { t with heap := g2 })
        (fun e t => IsZip t.heap z TI TO .ellipsis ∧ ∀ g2, Heap.SameBut z t.heap g2 → E e { t with heap := g2 }) { s with heap := g }) :
    wpAny (model prog w) A (Builtin.«zip.__next__» ⟨[.ref z], []⟩) Q E s := by
  have rd : ∀ (n : Nat) (v f : Value) (t : Shared), IsZip t.heap z TI TO f → #[f, .bool false, .bool false, .ref TI, .ref TO][n]? = some v → ∀ {R : Value → Shared → Prop} {E' : Value → Shared → Prop}, R v t → wpAny (model prog w) A (field (.ref z) n) R E' t :=
    fun n v f t ht e _ _ r => wpAny_field ht rfl e r
  have pull : ∀ (n : Nat) (u v : Value) (t : Shared) (a b : Value), IsPair t.heap TO a b → ∀ {R : Unit → Shared → Prop} {E' : Value → Shared → Prop}, (∀ g, g.get? TO = some { cls := .type "tuple", data := .seq ((#[a, b] : Array Value).setIfInBounds n v) } → Heap.SameBut TO t.heap g → R () { t with heap := g }) →
      wpAny (model prog w) A (updateSeq TO (·.setIfInBounds n v)) R E' t := fun n u v t a b h _ _ r => wpAny_updateSeq_pair h r
  show wpAny _ _ (field (.ref z) 2 >>= _) _ _ _
  refine wpAny_bind (rd 2 _ _ s hz rfl ?_)
  show wpAny _ _ (field (.ref z) 3 >>= _) _ _ _
  refine wpAny_bind (rd 3 _ _ s hz rfl (wpAny_bind (wpAny_seqItems hI rfl ?_)))
  show wpAny _ _ (Builtin.SmallTypes.ownedTupleIsFree (.ref z) >>= _) _ _ _
  unfold Builtin.SmallTypes.ownedTupleIsFree
  refine wpAny_bind (wpAny_bind (rd 0 _ _ s hz rfl (wpAny_pure ?_)))
  simp only [if_true]
  refine wpAny_bind (wpAny_rule (wpAny_bind (rd 4 _ _ s hz rfl (wpAny_bind (wpAny_setField_rec hz (by simp) fun g hg sg => ?_)))))
  have kk := k g hg sg
  refine wpAny_bind ?_
  simp only [List.zipIdx_cons, List.zipIdx_nil, List.forIn_cons, List.forIn_nil]
  refine wpAny_bind (wpAny_bind (wpAny_onRaise (wpAny_bind (m := Builtin.SmallTypes.nextOf (.ref i1)) (wpAny_mono kk (fun x t ⟨hp, nx⟩ => ?_) fun e t ⟨hq, nx⟩ => ?_))))
  · refine wpAny_pure (wpAny_bind (wpAny_seqItems hp rfl (wpAny_bind (pull 0 .none x t a b hp fun g2 p2 s2 => wpAny_bind (wpAny_letGo (wpAny_pure ?_))))))
    refine wpAny_bind (wpAny_bind (wpAny_onRaise (wpAny_bind (m := Builtin.SmallTypes.nextOf (.ref i2)) (wpAny_mono (nx g2 p2 s2) (fun y t2 ⟨hp2, nx2⟩ => ?_) fun e t2 ⟨hq, nx⟩ => ?_))))
    · refine wpAny_pure (wpAny_bind (wpAny_seqItems hp2 rfl (wpAny_bind (pull 1 .none y t2 x b hp2 fun g3 p3 s3 => wpAny_bind (wpAny_letGo (wpAny_pure (wpAny_pure ?_)))))))
      obtain ⟨z3, fin⟩ := nx2 g3 p3 s3
      have hlt : z < g3.objs.size := Heap.lt_size z3
      refine wpAny_bind (wpAny_seqItems (show IsPair g3 TO x y from p3) rfl (wpAny_bind (wpAny_newTuple ?_)))
      show wpAny _ _ (Builtin.SmallTypes.ownedTupleHandOut (.ref z) (.ref g3.objs.size) >>= _) _ _ _
      unfold Builtin.SmallTypes.ownedTupleHandOut
      refine wpAny_bind (wpAny_bind (wpAny_setField_rec (show IsZip (g3.push { cls := .type "tuple", data := .seq #[x, y] }) z TI TO .ellipsis from Heap.get?_push_of_some _ z3) (by simp) fun g5 z5 s5 => ?_))
      refine wpAny_setField_rec (show IsZip g5 z TI TO (rawInt g3.objs.size) from z5) (by simp) fun g6 z6 s6 => wpAny_pure ?_
      have up : ∀ c, c ≠ z → Kp (g3.push { cls := .type "tuple", data := .seq #[x, y] }) g6 c := fun c n o e => s6.extBut _ _ n (s5.extBut _ _ n e)
      exact fin g6 z6 (up _ (Nat.ne_of_gt hlt) _ (Heap.get?_push_size _ rfl)) (by rw [s6.1, s5.1, Heap.size_push]) fun c n o e => up c n o (Heap.get?_push_of_some _ e)
    · exact wpAny_setField_rec hq (by simp) fun g3 _ s3 => nx g3 s3
  · exact wpAny_setField_rec hq (by simp) fun g3 _ s3 => nx g3 s3
end
end ZZ
namespace ZZ
open PySem
open PySem.Sem (wp)
section
variable {prog : Program} {w : World} {A : Around} {E : Value → Shared → Prop} {s : Shared} {ka kb : Bool}
theorem zz_next {z TI TO i1 i2 l1 l2 : Addr} {n1 n2 : Nat} {xs ys : Array Value} {x y a b : Value} {Q : Option Value → Shared → Prop} (D : ZipApart z TI TO i1 i2 l1 l2)
    (hz : IsZip s.heap z TI TO .none) (hI : IsPair s.heap TI (.ref i1) (.ref i2)) (hO : IsPair s.heap TO a b) (c1 : Cu ka s.heap i1 l1 n1) (c2 : Cu kb s.heap i2 l2 n2) (q1 : Sq ka s.heap l1 xs) (q2 : Sq kb s.heap l2 ys)
    (hx : xs[n1]? = some x) (hy : ys[n2]? = some y)
    (k : ∀ g, IsZip g z TI TO (rawInt s.heap.objs.size) → IsPair g TO x y → Cu ka g i1 l1 (n1 + 1) → Cu kb g i2 l2 (n2 + 1) → IsPair g s.heap.objs.size x y → Mv z TO i1 i2 s.heap g → Q (some (.ref s.heap.objs.size)) { s with heap := g }) :
    wpAny (model prog w) A (pyNext (.ref z)) Q E s := by
  have ht : s.TypeIs (.ref z) "zip" := ⟨_, hz, rfl⟩
  unfold pyNext
  refine wpAny_bind (wpAny_attempt (wpAny_callSpecial?_slot (name := Str.ofString "__next__") ht F.slot_zip_next (wpAny_call_entry F.slot_zip_next ht F.entry_zip_next ?_ (F.args_zip_next_1 _))))
  refine zz_open D hz hI hO fun g1 z1 s1 => ?_
  have e1 : ∀ c, c ≠ z → Kp s.heap g1 c := fun c n o e => s1.extBut _ _ n e
  refine cu_item (c1.to (e1 _ D.i1z)) (q1.to (e1 _ D.l1z)) hx fun g2 c1' s2 => ⟨?_, fun g3 p3 s3 => ?_⟩
  · exact s2.extBut _ _ D.TOi1 (e1 _ D.TOz _ hO)
  have e3 : ∀ c, c ≠ z → c ≠ TO → c ≠ i1 → Kp s.heap g3 c := fun c n n2 n3 o e => s3.extBut _ _ n2 (s2.extBut _ _ n3 (e1 c n o e))
  refine cu_item (c2.to (e3 _ D.i2z D.TOi2.symm D.i12.symm)) (q2.to (e3 _ D.l2z D.l2TO D.l2i1)) hy fun g4 c2' s4 => ⟨?_, fun g5 p5 s5 => ⟨?_, fun g6 z6 p6 n6 k6 => ?_⟩⟩
  · exact s4.extBut _ _ D.TOi2 p3
  · exact s5.extBut _ _ D.TOz.symm (s4.extBut _ _ D.i2z.symm (s3.extBut _ _ D.TOz.symm (s2.extBut _ _ D.i1z.symm z1)))
  have sz : g5.objs.size = s.heap.objs.size := by rw [s5.1, s4.1, s3.1, s2.1, s1.1]
  rw [sz] at z6 p6
  refine ⟨_, rfl, wpAny_pure ?_⟩
  rw [sz]
  refine k g6 z6 (k6 _ D.TOz _ p5) ?_ ?_ p6 ⟨fun c o n1 n2 n3 n4 e => k6 c n1 o (s5.extBut _ _ n2 (s4.extBut _ _ n4 (e3 c n1 n2 n3 o e)))⟩
  · exact c1'.to fun o e => k6 _ D.i1z o (s5.extBut _ _ D.TOi1.symm (s4.extBut _ _ D.i12 (s3.extBut _ _ D.TOi1.symm e)))
  · exact c2'.to fun o e => k6 _ D.i2z o (s5.extBut _ _ D.TOi2.symm e)
theorem zz_end {z TI TO i1 i2 l1 l2 : Addr} {n1 n2 : Nat} {xs ys : Array Value} {a b : Value} {Q : Option Value → Shared → Prop} (hh : A.handled = none) (D : ZipApart z TI TO i1 i2 l1 l2)
    (hz : IsZip s.heap z TI TO .none) (hI : IsPair s.heap TI (.ref i1) (.ref i2)) (hO : IsPair s.heap TO a b) (c1 : Cu ka s.heap i1 l1 n1) (c2 : Cu kb s.heap i2 l2 n2) (q1 : Sq ka s.heap l1 xs) (q2 : Sq kb s.heap l2 ys)
    (hend : xs[n1]? = none ∨ ys[n2]? = none) (k : ∀ g, Mv z TO i1 i2 s.heap g → Q none { s with heap := g }) : wpAny (model prog w) A (pyNext (.ref z)) Q E s := by
  have ht : s.TypeIs (.ref z) "zip" := ⟨_, hz, rfl⟩
  unfold pyNext
  refine wpAny_bind (wpAny_attempt (wpAny_callSpecial?_slot (name := Str.ofString "__next__") ht F.slot_zip_next (wpAny_call_entry F.slot_zip_next ht F.entry_zip_next ?_ (F.args_zip_next_1 _))))
  have stop : ∀ (t : Shared) (e : Addr) (g : Heap), (∃ o, t.heap.get? e = some o ∧ o.cls = .type "StopIteration") → IsZip t.heap z TI TO .ellipsis → Mv z TO i1 i2 s.heap t.heap → Heap.SameBut z t.heap g → t = { s with heap := t.heap } →
      wpAny (model prog w) A (do if (← isInstance (.ref e) (.type "StopIteration")) then pure none else throw (.ref e) : Sem (Option Value)) Q E { t with heap := g } := fun t e g ⟨o, ho, hc⟩ ze m sg et => by
    have ne : e ≠ z := fun q => by subst q; rw [ze] at ho; cases ho; simp at hc
    refine wpAny_bind (wpAny_isInstance (T := "StopIteration") (b := true) ⟨o, sg.extBut _ _ ne ho, hc⟩ isSubtype_stop (wpAny_pure ?_))
    rw [et]
    exact k g ⟨fun c o n1 n2 n3 n4 e => sg.extBut _ _ n1 (m.go c o n1 n2 n3 n4 e)⟩
  refine zz_open D hz hI hO fun g1 z1 s1 => ?_
  have e1 : ∀ c, c ≠ z → Kp s.heap g1 c := fun c n o e => s1.extBut _ _ n e
  cases hx : xs[n1]? with
  | none =>
    refine cu_end hh (c1.to (e1 _ D.i1z)) (q1.to (e1 _ D.l1z)) hx fun g2 e s2 he => ?_
    have z2 : IsZip g2 z TI TO .ellipsis := s2 _ _ D.i1z.symm z1
    exact ⟨z2, fun g3 s3 => stop { s with heap := g2 } e g3 he z2 ⟨fun c o n1 n2 n3 n4 x => s2 _ _ n3 (e1 c n1 o x)⟩ s3 rfl⟩
  | some x =>
    have hy : ys[n2]? = none := hend.elim (fun h => by rw [hx] at h; cases h) id
    refine cu_item (c1.to (e1 _ D.i1z)) (q1.to (e1 _ D.l1z)) hx fun g2 c1' s2 => ⟨?_, fun g3 p3 s3 => ?_⟩
    · exact s2.extBut _ _ D.TOi1 (e1 _ D.TOz _ hO)
    have e3 : ∀ c, c ≠ z → c ≠ TO → c ≠ i1 → Kp s.heap g3 c := fun c n n2 n3 o e => s3.extBut _ _ n2 (s2.extBut _ _ n3 (e1 c n o e))
    refine cu_end hh (c2.to (e3 _ D.i2z D.TOi2.symm D.i12.symm)) (q2.to (e3 _ D.l2z D.l2TO D.l2i1)) hy fun g4 e s4 he => ?_
    have z4 : IsZip g4 z TI TO .ellipsis := s4 _ _ D.i2z.symm (s3.extBut _ _ D.TOz.symm (s2.extBut _ _ D.i1z.symm z1))
    exact ⟨z4, fun g5 s5 => stop { s with heap := g4 } e g5 he z4 ⟨fun c o n1 n2 n3 n4 x => s4 _ _ n4 (e3 c n1 n2 n3 o x)⟩ s5 rfl⟩
end
end ZZ
namespace ZZ
open PySem
open PySem.Sem (wp)
/-! ### zip made -/
abbrev nOb (b : Bool) (l : Addr) : Obj := match b with
  | true => { cls := .type "tuple_iterator", data := .fields #[.ref l, .int 0 0] }
  | false => { cls := .type "list_iterator", data := .fields #[.ref l, .int 0 0] }
abbrev hA (ka : Bool) (h : Heap) (l1 : Addr) : Heap := h.push (nOb ka l1)
abbrev hB (ka kb : Bool) (h : Heap) (l1 l2 : Addr) : Heap := (hA ka h l1).push (nOb kb l2)
abbrev hC (ka kb : Bool) (h : Heap) (l1 l2 : Addr) : Heap := (hB ka kb h l1 l2).push { cls := .type "tuple", data := .seq #[.ref h.objs.size, .ref (hA ka h l1).objs.size] }
abbrev hD (ka kb : Bool) (h : Heap) (l1 l2 : Addr) : Heap := (hC ka kb h l1 l2).push { cls := .type "tuple", data := .seq #[.none, .none] }
abbrev hE (ka kb : Bool) (h : Heap) (l1 l2 : Addr) : Heap := (hD ka kb h l1 l2).push { cls := .type "zip", data := .fields #[.none, .bool false, .bool false, .ref (hB ka kb h l1 l2).objs.size, .ref (hC ka kb h l1 l2).objs.size] }
theorem made (ka kb : Bool) (l1 l2 : Addr) (xs ys : Array Value) :
    Meets (Builtin.«zip.__new__» ⟨[.type "zip", .ref l1, .ref l2], []⟩) (fun _ R s => Sq ka s.heap l1 xs ∧ Sq kb s.heap l2 ys ∧ R (.ok (.ret (.ref (hD ka kb s.heap l1 l2).objs.size))) { s with heap := hE ka kb s.heap l1 l2 }) :=
  .of_wp fun prog w A R s h => by
    obtain ⟨hp, g, d, tk, os⟩ := s
    obtain ⟨q1, q2, h⟩ := h
    have hsub := sub_zip
    have q3 : Sq kb (Shared.heap ⟨hp.push (nOb ka l1), g, d, tk, os⟩) l2 ys := q2.to fun o e => Heap.get?_push_of_some _ e
    cases ka <;> cases kb
    · have a1 : Heap.IsList (Shared.heap ⟨hp, g, d, tk, os⟩) l1 xs := q1
      have a2 : Heap.IsList (Shared.heap ⟨hp.push (nOb false l1), g, d, tk, os⟩) l2 ys := q3
      wp_walk using wpAny_pyIter_list a1, wpAny_pyIter_list a2
      exact ⟨_, rfl, h⟩
    · have a1 : Heap.IsList (Shared.heap ⟨hp, g, d, tk, os⟩) l1 xs := q1
      have a2 : Heap.IsTuple (Shared.heap ⟨hp.push (nOb false l1), g, d, tk, os⟩) l2 ys := q3
      wp_walk using wpAny_pyIter_list a1, wpAny_pyIter_tuple a2
      exact ⟨_, rfl, h⟩
    · have a1 : Heap.IsTuple (Shared.heap ⟨hp, g, d, tk, os⟩) l1 xs := q1
      have a2 : Heap.IsList (Shared.heap ⟨hp.push (nOb true l1), g, d, tk, os⟩) l2 ys := q3
      wp_walk using wpAny_pyIter_tuple a1, wpAny_pyIter_list a2
      exact ⟨_, rfl, h⟩
    · have a1 : Heap.IsTuple (Shared.heap ⟨hp, g, d, tk, os⟩) l1 xs := q1
      have a2 : Heap.IsTuple (Shared.heap ⟨hp.push (nOb true l1), g, d, tk, os⟩) l2 ys := q3
      wp_walk using wpAny_pyIter_tuple a1, wpAny_pyIter_tuple a2
      exact ⟨_, rfl, h⟩
section
variable {prog : Program} {w : World} {A : Around} {E : Value → Shared → Prop} {s : Shared} {ka kb : Bool}
theorem cu_new {b : Bool} {h : Heap} {it l : Addr} (e : h.get? it = some (nOb b l)) : Cu b h it l 0 := by cases b <;> exact ⟨_, e, rfl, rfl⟩
theorem call_zz {l1 l2 : Addr} {xs ys : Array Value} {Q : Value → Shared → Prop} (q1 : Sq ka s.heap l1 xs) (q2 : Sq kb s.heap l2 ys)
    (k : ∀ g, IsZip g (s.heap.objs.size + 4) (s.heap.objs.size + 2) (s.heap.objs.size + 3) .none → IsPair g (s.heap.objs.size + 2) (.ref s.heap.objs.size) (.ref (s.heap.objs.size + 1)) → IsPair g (s.heap.objs.size + 3) .none .none →
      Cu ka g s.heap.objs.size l1 0 → Cu kb g (s.heap.objs.size + 1) l2 0 → (∀ c, Kp s.heap g c) → Q (.ref (s.heap.objs.size + 4)) { s with heap := g }) : wpAny (model prog w) A (call (.type "zip") [.ref l1, .ref l2]) Q E s := by
  refine callType_new F.called_zip (by decide) (F.typeCall_zip_2 _ _) (F.newCall_zip_2 _ _) (fun obj => F.args_object_init_3 obj _ _) F.entry_zip_new (made ka kb l1 l2 xs ys) ⟨q1, q2, ?_⟩
  have up : ∀ {h : Heap} {o : Obj} {c : Addr} {x : Obj}, h.get? c = some x → (h.push o).get? c = some x := fun e => Heap.get?_push_of_some _ e
  have top : ∀ (h : Heap) (o : Obj), o.isFreed = false → (h.push o).get? h.objs.size = some o := fun h o e => Heap.get?_push_size _ e
  have fr : ∀ b l, (nOb b l).isFreed = false := fun b l => by cases b <;> rfl
  have a1 := Heap.size_push s.heap (nOb ka l1)
  have a2 := (Heap.size_push (hA ka s.heap l1) (nOb kb l2)).trans (congrArg (· + 1) a1)
  have a3 := (Heap.size_push (hB ka kb s.heap l1 l2) { cls := .type "tuple", data := .seq #[.ref s.heap.objs.size, .ref (hA ka s.heap l1).objs.size] }).trans (congrArg (· + 1) a2)
  have a4 := (Heap.size_push (hC ka kb s.heap l1 l2) { cls := .type "tuple", data := .seq #[.none, .none] }).trans (congrArg (· + 1) a3)
  have e5 : (hE ka kb s.heap l1 l2).get? _ = _ := top (hD ka kb s.heap l1 l2) { cls := .type "zip", data := .fields #[.none, .bool false, .bool false, .ref (hB ka kb s.heap l1 l2).objs.size, .ref (hC ka kb s.heap l1 l2).objs.size] } rfl
  have e4 : (hE ka kb s.heap l1 l2).get? _ = _ := up (top (hC ka kb s.heap l1 l2) { cls := .type "tuple", data := .seq #[.none, .none] } rfl)
  have e3 : (hE ka kb s.heap l1 l2).get? _ = _ := up (up (top (hB ka kb s.heap l1 l2) { cls := .type "tuple", data := .seq #[.ref s.heap.objs.size, .ref (hA ka s.heap l1).objs.size] } rfl))
  have e2 : (hE ka kb s.heap l1 l2).get? _ = _ := up (up (up (top (hA ka s.heap l1) (nOb kb l2) (fr kb l2))))
  have e1 : (hE ka kb s.heap l1 l2).get? _ = _ := up (up (up (up (top s.heap (nOb ka l1) (fr ka l1)))))
  show _ ∧ _
  have b2 : (hB ka kb s.heap l1 l2).objs.size = s.heap.objs.size + 2 := a2
  have b3 : (hC ka kb s.heap l1 l2).objs.size = s.heap.objs.size + 3 := a3
  have b4 : (hD ka kb s.heap l1 l2).objs.size = s.heap.objs.size + 4 := a4
  have b1 : (hA ka s.heap l1).objs.size = s.heap.objs.size + 1 := a1
  rw [b2, b3, b4] at e5
  rw [b3] at e4
  rw [b2, b1] at e3
  rw [b1] at e2
  rw [b4]
  exact ⟨⟨_, e5, rfl⟩, k _ e5 e3 e4 (cu_new e1) (cu_new e2) fun c o x => up (up (up (up (up x))))⟩
end
end ZZ
namespace L3
open PySem PySem.Spec PyProof.Rows L2
/-! ### a loop over zip -/
def SqX (b : Bool) (K : PySem.W.Frag) (H : Hp) (a : Addr) (xs : List V) : Prop := match b with
  | true => SqT K H a xs
  | false => SqL K H a xs
theorem SqX.seq {b : Bool} {X : Cx} {pins : List (Addr × Obj)} {σ : L2.St} {H : Hp} {s : Shared} {a : Addr} {xs : List V} (I : Inv X pins σ H s) (h : SqX b X.K H a xs) : ∃ its : List Value, Vals xs its ∧ ZZ.Sq b s.heap a its.toArray := by
  cases b
  · obtain ⟨its, r, p, _⟩ := I.list h
    exact ⟨its, r, p.isList⟩
  · obtain ⟨its, r, p, _⟩ := I.tuple h
    exact ⟨its, r, p⟩
theorem SqX.inj {b : Bool} {X : Cx} {pins : List (Addr × Obj)} {σ : L2.St} {H : Hp} {s : Shared} {a : Addr} {xs ys : List V} (I : Inv X pins σ H s) (h : SqX b X.K H a xs) (h2 : SqX b X.K H a ys) : xs = ys := by
  cases b
  · exact I.list_inj h h2
  · exact I.tuple_inj h h2
def ItM (K : PySem.W.Frag) (ka kb : Bool) (a b : Addr) : It where
  go i H := ∃ (xs ys : List V) (x y : V), SqX ka K H a xs ∧ SqX kb K H b ys ∧ xs[i]? = some x ∧ ys[i]? = some y
  yld i H v H' := ∃ T x y, v = .ref T ∧ H T = none ∧ H' = upd H T (.tup [x, y]) ∧ (∀ xs, SqX ka K H a xs → xs[i]? = some x) ∧ ∀ ys, SqX kb K H b ys → ys[i]? = some y
  stop i H := ∃ xs ys : List V, SqX ka K H a xs ∧ SqX kb K H b ys ∧ (xs.length ≤ i ∨ ys.length ≤ i)
theorem turn_mixed {P : Program} {w : World} {K : PySem.W.Frag} {elts : List Expr} {kk : Nat} {tpos : Pos} {ka kb : Bool} {a b z TI TO i1 i2 : Addr} (D : ZipApart z TI TO i1 i2 a b) :
    Turn P w K (.Tuple elts kk tpos) (ItM K ka kb a b) [z, TI, TO, i1, i2] z (fun i h => IsZip h z TI TO .none ∧ IsPair h TI (.ref i1) (.ref i2) ∧ (∃ x y, IsPair h TO x y) ∧ ZZ.Cu ka h i1 a i ∧ ZZ.Cu kb h i2 b i) where
  mem := List.mem_cons_self
  obj i h st c hc := by
    obtain ⟨hz, hI, ⟨x, y, hO⟩, c1, c2⟩ := st
    simp only [List.mem_cons, List.not_mem_nil, or_false] at hc
    rcases hc with rfl | rfl | rfl | rfl | rfl
    · exact ⟨_, hz, nofun⟩
    · exact ⟨_, hI, nofun⟩
    · exact ⟨_, hO, nofun⟩
    · exact c1.obj
    · exact c2.obj
  keep i h h' st k := by
    obtain ⟨hz, hI, ⟨x, y, hO⟩, c1, c2⟩ := st
    have k' : ∀ c ∈ [z, TI, TO, i1, i2], ZZ.Kp h h' c := fun c m o e => k c m o e
    exact ⟨k' z (by simp) _ hz, k' TI (by simp) _ hI, ⟨x, y, k' TO (by simp) _ hO⟩, c1.to (k' i1 (by simp)), c2.to (k' i2 (by simp))⟩
  item := by
    rintro X rfl rfl rfl hc i pins s σ H E I hf ⟨hz, hI, ⟨x0, y0, hO⟩, c1, c2⟩ ⟨xs, ys, x, y, qa, qb, hx, hy⟩
    obtain ⟨u, r1, p1⟩ := qa.seq I
    obtain ⟨v, r2, p2⟩ := qb.seq I
    obtain ⟨ux, eu, ru⟩ := r1.get hx
    obtain ⟨vy, ev, rv⟩ := r2.get hy
    have zl : z < s.heap.objs.size := Heap.lt_size hz
    refine ZZ.zz_next D hz hI hO c1 c2 p1 p2 (x := ux) (y := vy) (by simpa using eu) (by simpa using ev) fun g z' O' c1' c2' hT mv => ⟨_, rfl, ?_⟩
    refine wpAny_letOwnedTupleGo_zip (s := { s with heap := g }) z' fun g2 z2 sb => ?_
    have near : ∀ c, c ≠ z → ZZ.Kp g g2 c := fun c n o e => (sb.2 c n).trans e
    have newT : ObjOk X.prog X.w (upd H s.heap.objs.size (.tup [x, y])) g2 s.heap.objs.size (.tup [x, y]) :=
      ⟨show 2 ≤ sizeLine by decide, [ux, vy], .cons ru (.cons rv .nil), _, near _ (Nat.ne_of_gt zl) _ hT, rfl, _, rfl⟩
    have out : ∀ c, c ∉ [z, TI, TO, i1, i2] → c ≠ z ∧ c ≠ TO ∧ c ≠ i1 ∧ c ≠ i2 := fun c n => by
      simp only [List.mem_cons, List.not_mem_nil, or_false, not_or] at n
      exact ⟨n.1, n.2.2.1, n.2.2.2.1, n.2.2.2.2⟩
    have I1 : Inv X pins σ (upd H s.heap.objs.size (.tup [x, y])) { s with heap := g2 } :=
      I.turnedNew (t' := s.toks) (ch := [z, TI, TO, i1, i2]) (fun c o n e => near c (out c n).1 o (mv.go c o (out c n).1 (out c n).2.1 (out c n).2.2.1 (out c n).2.2.2 e)) hf (Nat.le_refl _) newT
    refine ⟨.ref s.heap.objs.size, _, I1, rfl, ⟨_, x, y, rfl, I.hok.fresh (Nat.le_refl _), rfl, fun l hl => by rw [hl.inj I qa]; exact hx, fun l hl => by rw [hl.inj I qb]; exact hy⟩, ⟨z2, near _ D.TIz _ (mv.go _ _ D.TIz D.TITO D.TIi1 D.TIi2 hI), ⟨ux, vy, near _ D.TOz _ O'⟩, c1'.to (near _ D.i1z), c2'.to (near _ D.i2z)⟩, fun c hcm => ?_⟩
    have lt : c < s.heap.objs.size := by
      simp only [List.mem_cons, List.not_mem_nil, or_false] at hcm
      rcases hcm with rfl | rfl | rfl | rfl | rfl
      · exact zl
      · exact Heap.lt_size hI
      · exact Heap.lt_size hO
      · obtain ⟨_, e, _⟩ := c1.obj; exact Heap.lt_size e
      · obtain ⟨_, e, _⟩ := c2.obj; exact Heap.lt_size e
    rw [upd_ne (Nat.ne_of_lt lt)]
    exact (hf c hcm).1
  done := by
    rintro X rfl rfl rfl hc i pins s σ H E I hf ⟨hz, hI, ⟨x0, y0, hO⟩, c1, c2⟩ ⟨xs, ys, qa, qb, hend⟩
    obtain ⟨u, r1, p1⟩ := qa.seq I
    obtain ⟨v, r2, p2⟩ := qb.seq I
    have l1 := r1.length
    have l2 := r2.length
    refine ZZ.zz_end (I.ok.hd hc) D hz hI hO c1 c2 p1 p2 (hend.imp (fun q => by simp; omega) fun q => by simp; omega) fun g mv => ⟨rfl, I.turnedL (t' := s.toks) (ch := [z, TI, TO, i1, i2]) (fun c o n e => ?_) hf⟩
    simp only [List.mem_cons, List.not_mem_nil, or_false, not_or] at n
    exact mv.go c o n.1 n.2.2.1 n.2.2.2.1 n.2.2.2.2 e
  self A i s Q E st h := wpAny_pyIter_zip st.1 h
def zipD (l m : List D) : List D := List.zipWith (fun x y => .tup [x, y]) l m
/-- which kind of sequence -/
def seqOf : D → Option (Bool × List D)
  | .lst l => some (false, l)
  | .tup l => some (true, l)
  | _ => none
theorem seq_at {K : PySem.W.Frag} {G : Hp} {d : D} {v : V} {b : Bool} {l : List D} (h : seqOf d = some (b, l)) (r : Rp K G d v) : ∃ a xs, v = .ref a ∧ (∀ G' H', Kn G G' → Kn G' H' → SqX b K H' a xs) ∧ RpA K G l xs := by
  cases d with
  | lst m =>
    obtain ⟨rfl, rfl⟩ := Prod.mk.inj (Option.some.inj h)
    simp only [Rp] at r
    obtain ⟨a, xs, rfl, z1, z2⟩ := r
    exact ⟨a, xs, rfl, fun G' H' k1 k2 => SqL.of (k2 _ _ (k1 _ _ z1)), z2⟩
  | tup m =>
    obtain ⟨rfl, rfl⟩ := Prod.mk.inj (Option.some.inj h)
    simp only [Rp] at r
    obtain ⟨a, xs, rfl, z1, z2⟩ := r
    exact ⟨a, xs, rfl, fun G' H' k1 k2 => k2.sqT (k1.sqT z1), z2⟩
  | _ => cases h
theorem y_zip {K : PySem.W.Frag} {G : Hp} {ka kb : Bool} {a b : Addr} {l m : List D} {xs ys : List V} (h1 : ∀ G' H', Kn G G' → Kn G' H' → SqX ka K H' a xs) (h2 : ∀ G' H', Kn G G' → Kn G' H' → SqX kb K H' b ys) (r1 : RpA K G l xs) (r2 : RpA K G m ys) : Yields K G (ItM K ka kb a b) (zipD l m) := by
  have hl : (zipD l m).length = min l.length m.length := by unfold zipD; rw [List.length_zipWith]
  have e1 := r1.len
  have e2 := r2.len
  refine ⟨fun i G' H' k1 k2 hi => ?_, fun i G' H' x H2 k1 k2 hi y => ?_, fun i G' H' k1 k2 hi => ?_⟩
  · have i1 : i < xs.length := by omega
    have i2 : i < ys.length := by omega
    exact ⟨xs, ys, xs[i], ys[i], h1 _ _ k1 k2, h2 _ _ k1 k2, List.getElem?_eq_getElem i1, List.getElem?_eq_getElem i2⟩
  · obtain ⟨T, u, v, rfl, hT, rfl, q1, q2⟩ := y
    have f1 := q1 xs (h1 _ _ k1 k2)
    have f2 := q2 ys (h2 _ _ k1 k2)
    have i1 : i < l.length := by omega
    have i2 : i < m.length := by omega
    have g : Grow noFoot noFoot G' H' (upd G' T (.tup [u, v])) (upd H' T (.tup [u, v])) := Grow.new k2 hT
    have R1 : RpA K (upd G' T (.tup [u, v])) l xs := (r1.mono k1).mono g.gg
    have R2 : RpA K (upd G' T (.tup [u, v])) m ys := (r2.mono k1).mono g.gg
    refine ⟨.tup [l[i], m[i]], _, ?_, g, ?_⟩
    · unfold zipD
      rw [List.getElem?_zipWith, List.getElem?_eq_getElem i1, List.getElem?_eq_getElem i2]
    · simp only [Rp]
      obtain ⟨u', eu, ru⟩ := R1.getD (List.getElem?_eq_getElem i1)
      obtain ⟨v', ev, rv⟩ := R2.getD (List.getElem?_eq_getElem i2)
      obtain rfl : u' = u := Option.some.inj (eu.symm.trans f1)
      obtain rfl : v' = v := Option.some.inj (ev.symm.trans f2)
      exact ⟨T, [u', v'], rfl, .inl (.inl upd_same), RpA.cons_iff.mpr ⟨u', [v'], rfl, ru, RpA.one rv⟩⟩
  · refine ⟨xs, ys, h1 _ _ k1 k2, h2 _ _ k1 k2, ?_⟩
    omega
section
variable {C : SC} {A : Amb} {E : NE} {u : A.U} {pos p q : Pos} {a b : Expr}
theorem i_zip {Θ : List D → A.U → Prop} {elts : List Expr} {kk : Nat} {tpos : Pos} (hn : Nm C.nm "zip" .globalImplicit) (hm : C.mg "zip" = none)
    (h : EvA C A [a, b] E u fun ds u' => ∃ da db k1 k2 l m, ds = [da, db] ∧ seqOf da = some (k1, l) ∧ seqOf db = some (k2, m) ∧ Θ (zipD l m) u')
    (hs : ∀ env, starEach [a, b] env = (false, eval a env) :: starEach [b] env := by intro _; rfl) (hpl : ∀ env, (backTo pos (starEach [b] env)).any (·.1) = false := by intro _; rfl) : EvI C A (.Tuple elts kk tpos) (.Call (.Name "zip" q) [a, b] [] pos) E u Θ := by
  intro G0 H0 G H σ he R k X pins s hX I
  obtain ⟨j, nm, rfl, hO, hK⟩ := id hX
  refine Call_ (ld_blt I (hn.gl hO) hm PyProof.Rows.boot_zip (PyProof.Rows.callWith_type1 (thn ((pa_of hX [a, b]).run pos pins s σ H (fun vs H1 => ∃ ds u' G1, (∃ da db k1 k2 l m, ds = [da, db] ∧ seqOf da = some (k1, l) ∧ seqOf db = some (k2, m) ∧ Θ (zipD l m) u') ∧ Grow (A.foot u) (A.foot u') G H G1 H1 ∧ A.st u' G1 H1 ∧ RpA X.K G1 ds vs) I
    (h G0 H0 G H σ he _ fun ds u' vs G1 H1 p g st r => ⟨ds, u', G1, p, g, st, r⟩)) fun us s1 ⟨vs, H1, I1, r1, ds, u', G1, p, g, st, r⟩ => ?_) (hs X.env) (hpl X.env)))
  obtain ⟨da, db, k1, k2, l, m, rfl, e1, e2, th⟩ := p
  rw [RpA.cons_iff] at r
  obtain ⟨va, vr, rfl, ra, r⟩ := r
  obtain ⟨vb, rfl, rb⟩ := rpa1 r
  obtain ⟨x, xs, rfl, sx, rx⟩ := seq_at e1 ra
  obtain ⟨y, ys, rfl, sy, ry⟩ := seq_at e2 rb
  cases r1 with
  | cons z1 z2 =>
    cases z2 with
    | cons z3 z4 =>
      cases z4
      cases z1
      cases z3
      obtain ⟨its, rv, p1⟩ := (sx G1 H1 (Kn.refl _) g.gh).seq I1
      obtain ⟨its2, rv2, p2⟩ := (sy G1 H1 (Kn.refl _) g.gh).seq I1
      refine ZZ.call_zz p1 p2 fun g2 hz hI hO c1 c2 kp => wpAny_pyIter_zip hz ?_
      refine ⟨s1.heap.objs.size + 4, [s1.heap.objs.size + 4, s1.heap.objs.size + 2, s1.heap.objs.size + 3, s1.heap.objs.size, s1.heap.objs.size + 1], _, _, H1, rfl, I1.kept (t' := s1.toks) (fun c o e => kp c o e), turn_mixed (PySem.W.ktu_apart s1.heap.objs.size x y p1.lt p2.lt), ⟨hz, hI, ⟨_, _, hO⟩, c1, c2⟩, fun c hcm => ?_, k _ u' _ G1 H1 th g st (y_zip sx sy rx ry)⟩
      have le : s1.heap.objs.size ≤ c := by
        simp only [List.mem_cons, List.not_mem_nil, or_false] at hcm
        rcases hcm with rfl | rfl | rfl | rfl | rfl
        · exact Nat.le_add_right _ _
        · exact Nat.le_add_right _ _
        · exact Nat.le_add_right _ _
        · exact Nat.le_refl _
        · exact Nat.le_add_right _ _
      exact I1.fpOk le (I1.hok.fresh le)
end
end L3
namespace L3
open PySem PySem.Spec PyProof.Rows L2
/-! ### lists of one's own: changed in place, at last a datum -/
theorem nodup_key : ∀ {l : NE} {x : Str} {s t : Sl}, (l.map (·.1)).Nodup → (x, s) ∈ l → (x, t) ∈ l → s = t
  | (y, r) :: l, x, s, t, nd, h1, h2 => by
    have nd : y ∉ l.map (·.1) ∧ (l.map (·.1)).Nodup := List.nodup_cons.mp nd
    rcases List.mem_cons.mp h1 with a | a <;> rcases List.mem_cons.mp h2 with b | b
    · exact (Prod.mk.inj a).2.trans (Prod.mk.inj b).2.symm
    · exact absurd (List.mem_map.mpr ⟨_, b, (Prod.mk.inj a).1⟩) nd.1
    · exact absurd (List.mem_map.mpr ⟨_, a, (Prod.mk.inj b).1⟩) nd.1
    · exact nodup_key nd.2 a b
section
variable {C : SC} {A : Amb} {E : NE} {u : A.U} {pos p apos spos : Pos} {e : Expr} {P : Post A}
theorem Env.chg {G0 : Beg} {H0 G H : Hp} {σ : L2.St} {x : Str} {F : Sl → NE} {l : List D} (he : Env C A G0 H0 u G H E σ) (hp : Spl E x F) (hm : At E x (.own l)) :
    ∃ (i : Nat) (q : Addr) (xs : List V), C.N[i]? = some x ∧ σ[i]? = some (some (.ref q)) ∧ H q = some (.lst xs) ∧ RpA C.K G l xs ∧ (∀ l' xs', RpA C.K G l' xs' → Env C A G0 H0 u G (upd H q (.lst xs')) (F (.own l')) σ) ∧
      Env C A G0 H0 u (upd G q (.lst xs)) H (F (.dat (.lst l))) σ := by
  obtain ⟨α, e1, e2⟩ := he.ent
  obtain ⟨i, hi, hs, hG, h0, hf, xs, hH, hr⟩ := e1 x _ hm.mem
  have kn := Kn.new (G := G) (p := α x) (o := .lst xs) hG
  have names : ∀ s, (F s).map (·.1) = E.map (·.1) := fun s => (hp.spec s).1
  have nd : ∀ s, ((F s).map (·.1)).Nodup := fun s => by rw [names]; exact he.nd
  have mem : ∀ s, (x, s) ∈ F s := fun s => (hp.spec s).2.1
  have same : ∀ s y t, (y, t) ∈ F s → (y = x ∧ t = s) ∨ (y ≠ x ∧ (y, t) ∈ E) := fun s y t m => by
    by_cases z : y = x
    · subst z
      exact .inl ⟨rfl, nodup_key (nd s) m (mem s)⟩
    · rcases (hp.spec s).2.2.2 _ m with q | q
      · exact absurd (Prod.mk.inj q).1 z
      · exact .inr ⟨z, q⟩
  have apart : ∀ y t, (y, t) ∈ E → y ≠ x → t.isOwn → α y ≠ α x := fun y t m n o q => n (e2 y x t _ m hm.mem o trivial q)
  refine ⟨i, α x, xs, hi, hs, hH, hr, fun l' xs' hr' => ?_, ?_⟩
  · have stay : ∀ a o, a ≠ α x → H a = some o → upd H (α x) (.lst xs') a = some o := fun a o n q => by rw [upd_ne n]; exact q
    have neG : ∀ a o, G a = some o → a ≠ α x := fun a o q z => by subst z; rw [hG] at q; cases q
    have neH : ∀ a o, H0 a = some o → a ≠ α x := fun a o q z => by subst z; rw [h0] at q; cases q
    refine ⟨⟨he.gr.gg, fun a o q => stay a o (neG a o q) (he.gr.gh a o q), fun a o n q => stay a o (neH a o q) (he.gr.hh a o n q), fun a q => ?_, he.gr.fr, he.gr.ff⟩, he.ln, ?_, nd _, α, fun y t m => ?_, fun y z s t m1 m2 o1 o2 q => ?_⟩
    · by_cases z : a = α x
      · subst z; rw [upd_same]; simp
      · rw [upd_ne z]; exact he.gr.th a q
    · exact A.stay u G H G _ he.st (Kn.refl _) (fun a o f q => stay a o (fun z => hf (by rw [← z]; exact f)) q) fun a f q => q
    · rcases same _ y t m with ⟨rfl, rfl⟩ | ⟨n, m'⟩
      · exact ⟨i, hi, hs, hG, h0, hf, xs', upd_same, hr'⟩
      · obtain ⟨j, f1, f2⟩ := e1 y t m'
        refine ⟨j, f1, ?_⟩
        cases t with
        | un => trivial
        | dat d => exact f2
        | own m2 => obtain ⟨g1, g2, g3, g4, ys, g5, g6⟩ := f2; exact ⟨g1, g2, g3, g4, ys, stay _ _ (apart y _ m' n trivial) g5, g6⟩
        | ownD m2 => obtain ⟨g1, g2, g3, g4, ys, g5, g6⟩ := f2; exact ⟨g1, g2, g3, g4, ys, stay _ _ (apart y _ m' n trivial) g5, g6⟩
        | ownX R => obtain ⟨g1, g2, g3, g4, ys, g5, g6⟩ := f2; exact ⟨g1, g2, g3, g4, ys, stay _ _ (apart y _ m' n trivial) g5, g6⟩
        | knX R => exact f2
    · rcases same _ y s m1 with ⟨rfl, rfl⟩ | ⟨n1, m1'⟩ <;> rcases same _ z t m2 with ⟨rfl, rfl⟩ | ⟨n2, m2'⟩
      · rfl
      · exact absurd q.symm (apart z t m2' n2 o2)
      · exact absurd q (apart y s m1' n1 o1)
      · exact e2 y z s t m1' m2' o1 o2 q
  · have neF : ∀ a, A.foot u a → a ≠ α x := fun a f z => hf (by rw [← z]; exact f)
    refine ⟨⟨he.gr.gg.trans kn, fun a o q => ?_, he.gr.hh, he.gr.th, fun a q n => ?_, he.gr.ff⟩, he.ln, A.stay u G H _ H he.st kn (fun _ _ _ q => q) fun a f q => by rw [upd_ne (neF a f)]; exact q, nd _, α, fun y t m => ?_, fun y z s t m1 m2 o1 o2 q => ?_⟩
    · by_cases z : a = α x
      · subst z; rw [upd_same] at q; cases q; exact hH
      · rw [upd_ne z] at q; exact he.gr.gh a o q
    · by_cases z : a = α x
      · subst z; exact h0
      · rw [upd_ne z] at n; exact he.gr.fr a q n
    · rcases same _ y t m with ⟨rfl, rfl⟩ | ⟨n, m'⟩
      · exact ⟨i, hi, _, hs, by simp only [Rp]; exact ⟨_, xs, rfl, upd_same, hr.mono kn⟩⟩
      · obtain ⟨j, f1, f2⟩ := e1 y t m'
        refine ⟨j, f1, ?_⟩
        have up : t.isOwn → ∀ z, G z = none → z = α y → upd G (α x) (HO.lst xs) z = none := fun o z g1 ez => by rw [upd_ne (by rw [ez]; exact apart y t m' n o)]; exact g1
        cases t with
        | un => trivial
        | dat d => obtain ⟨v, g1, g2⟩ := f2; exact ⟨v, g1, g2.mono kn⟩
        | own m2 => obtain ⟨g1, g2, g3, g4, ys, g5, g6⟩ := f2; exact ⟨g1, up trivial _ g2 rfl, g3, g4, ys, g5, g6.mono kn⟩
        | ownD m2 => obtain ⟨g1, g2, g3, g4, ys, g5, g6⟩ := f2; exact ⟨g1, up trivial _ g2 rfl, g3, g4, ys, g5, g6.mono kn⟩
        | ownX R => obtain ⟨g1, g2, g3, g4, ys, g5, g6⟩ := f2; exact ⟨g1, up trivial _ g2 rfl, g3, g4, ys, g5, R.mono kn g6⟩
        | knX R => obtain ⟨q', ob, e, h1, h2⟩ := f2; exact ⟨q', ob, e, kn _ _ h1, R.mono kn h2⟩
    · rcases same _ y s m1 with ⟨rfl, rfl⟩ | ⟨n1, m1'⟩ <;> rcases same _ z t m2 with ⟨rfl, rfl⟩ | ⟨n2, m2'⟩
      · rfl
      · exact (show False from o1).elim
      · exact (show False from o2).elim
      · exact e2 y z s t m1' m2' o1 o2 q
end
end L3
namespace L3
open PySem PySem.Spec PyProof.Rows L2
section
variable {C : SC} {A : Amb} {E : NE} {u : A.U} {pos p apos spos p2 : Pos} {e a : Expr} {P : Post A}
theorem own_var {X : Cx} {G0 : Beg} {H0 G H : Hp} {σ : L2.St} {x : Str} {l : List D} {kd : NameKind} (hX : Has C X) (he : Env C A G0 H0 u G H E σ) (hm : At E x (.own l)) (hn : Nm C.nm x kd) (hv : VisK kd)
    (hd : (x == ("__debug__" : Str)) = false) (hc : (x == ("__classdict__" : Str)) = false) : ∃ i : Nat, PE X (.Name x p) (tVar i) ∧ C.N[i]? = some x := by
  obtain ⟨j, nm, rfl, hO, hK⟩ := id hX
  obtain ⟨α, e1, _⟩ := he.ent
  obtain ⟨i, hi, _⟩ := e1 x _ hm.mem
  exact ⟨i, pe_var (i := i) hi (hn.vis hO hv) hd hc, hi⟩
/-- x.append(e) -/
theorem s_app {x : Str} {F : Sl → NE} {l : List D} {kd : NameKind} (hp : Spl E x F) (hm : At E x (.own l)) (hn : Nm C.nm x kd) (hv : VisK kd) (h : EvK C A e E u fun d u' => l.length < sizeLine ∧ P.nx (F (.own (l ++ [d]))) u')
    (hs : ∀ env, starEach [e] env = [(false, eval e env)] := by intro _; rfl) (hl : (apos.endLine == pos.line) = true := by rfl) (hd : (x == ("__debug__" : Str)) = false := by decide +kernel) (hc : (x == ("__classdict__" : Str)) = false := by decide +kernel)
    (hb : ∀ env, attributeBase (.Name x p) "append" env (eval (.Name x p) env) = eval (.Name x p) env := by intro _; rfl)
    (hw : ∀ env, swapsWith (.Call (.Attribute (.Name x p) "append" apos) [e] [] pos) none spos.line env = pure false := by intro _; rfl) :
    StK C A (.Expr (.Call (.Attribute (.Name x p) "append" apos) [e] [] pos) spos) E u P := by
  intro G0 H0 G H σ Ds he S X pins s hX I
  obtain ⟨i, pv, hi⟩ := own_var (p := p) hX he hm hn hv hd hc
  refine (ps_expr (pe_bm PySem.F.plainAttrs_list PySem.F.slot_list_append PySem.F.type_list_append mt_append pv (pa_cons (pe_of hX e) pa_nil (hs X.env)) (hb X.env) (by rw [hs X.env]; rfl) hl (hs X.env) rfl) (hw X.env)).run pins s σ H Ds I ?_
  obtain ⟨i', q, xs, hi', hσ, hH, hr, _, _⟩ := he.chg hp hm
  obtain ⟨j, nm, rfl, hO, hK⟩ := id hX
  obtain rfl : i = i' := nodup_ix hK.nd hi hi'
  refine ⟨.ref q, hσ, .inl ⟨rfl, xs, .inl (.inl hH)⟩, ?_⟩
  refine h G0 H0 G H σ he _ fun d u' v G' H' ⟨hz, k⟩ g st r => ?_
  have he' := he.go g st
  obtain ⟨i2, q2, xs2, hi2, hσ2, hH2, hr2, ch, _⟩ := he'.chg hp hm
  obtain rfl : i = i2 := nodup_ix hK.nd hi hi2
  obtain rfl : q = q2 := by rw [hσ] at hσ2; cases hσ2; rfl
  refine ⟨q, xs2, v, rfl, rfl, hH2, by rw [hr2.len]; exact hz, ?_⟩
  exact S.nx _ u' G' _ σ k (ch _ _ (hr2.append (RpA.one r)))
/-- x.extend(a new list) -/
theorem s_ext {x : Str} {F : Sl → NE} {l : List D} {kd : NameKind} (hp : Spl E x F) (hm : At E x (.own l)) (hn : Nm C.nm x kd) (hv : VisK kd) (h : EvN C A e E u fun ds u' => l.length + ds.length ≤ sizeLine ∧ P.nx (F (.own (l ++ ds))) u')
    (hs : ∀ env, starEach [e] env = [(false, eval e env)] := by intro _; rfl) (hl : (apos.endLine == pos.line) = true := by rfl) (hd : (x == ("__debug__" : Str)) = false := by decide +kernel) (hc : (x == ("__classdict__" : Str)) = false := by decide +kernel)
    (hb : ∀ env, attributeBase (.Name x p) "extend" env (eval (.Name x p) env) = eval (.Name x p) env := by intro _; rfl)
    (hw : ∀ env, swapsWith (.Call (.Attribute (.Name x p) "extend" apos) [e] [] pos) none spos.line env = pure false := by intro _; rfl) :
    StK C A (.Expr (.Call (.Attribute (.Name x p) "extend" apos) [e] [] pos) spos) E u P := by
  intro G0 H0 G H σ Ds he S X pins s hX I
  obtain ⟨i, pv, hi⟩ := own_var (p := p) hX he hm hn hv hd hc
  refine (ps_expr (pe_bm PySem.F.plainAttrs_list PySem.F.slot_list_extend PySem.F.type_list_extend mt_extend pv (pa_cons (pe_of hX e) pa_nil (hs X.env)) (hb X.env) (by rw [hs X.env]; rfl) hl (hs X.env) rfl) (hw X.env)).run pins s σ H Ds I ?_
  obtain ⟨i', q, xs, hi', hσ, hH, hr, _, _⟩ := he.chg hp hm
  obtain ⟨j, nm, rfl, hO, hK⟩ := id hX
  obtain rfl : i = i' := nodup_ix hK.nd hi hi'
  refine ⟨.ref q, hσ, .inl ⟨rfl, xs, .inl (.inl hH)⟩, ?_⟩
  refine h G0 H0 G H σ he _ fun ds u' b ys G' H' ⟨hz, k⟩ g st z1 z2 z3 z4 r => ?_
  have he' := he.go g st
  obtain ⟨i2, q2, xs2, hi2, hσ2, hH2, hr2, ch, _⟩ := he'.chg hp hm
  obtain rfl : i = i2 := nodup_ix hK.nd hi hi2
  obtain rfl : q = q2 := by rw [hσ] at hσ2; cases hσ2; rfl
  refine ⟨q, b, xs2, ys, rfl, rfl, hH2, z4, by rw [hr2.len, r.len]; exact hz, ?_⟩
  exact S.nx _ u' G' _ σ k (ch _ _ (hr2.append r))
/-- the item of a list, at a place that is not negative -/
def rGetP (K : PySem.W.Frag) : V → V → Hp → VK → Prop := fun o i H Q => ∃ p xs k v, o = .ref p ∧ i = .int k ∧ 0 ≤ k ∧ SqL K H p xs ∧ xs[k.toNat]? = some v ∧ Q v H
theorem get_p {X : Cx} : PGet X (rGetP X.K) := by
  intro pins s σ H o i ov iv Q I ro ri h
  obtain ⟨p, xs, k, v, rfl, rfl, h0, hq, hx, q⟩ := h
  cases ro
  obtain ⟨t, rfl⟩ := ri
  obtain ⟨its, r, pl, hz⟩ := I.list hq
  obtain ⟨w, ew, rw'⟩ := r.get hx
  have hl := r.length
  have hn := line63
  have hk : k.toNat < xs.length := (List.getElem?_eq_some_iff.mp hx).1
  exact wpAny_getItem_list pl.isList h0 (by omega) (by simpa using ew) ⟨v, H, I, rw', q⟩
/-- x[a] += e, over numbers -/
theorem s_augI {x : Str} {F : Sl → NE} {l : List D} {kd : NameKind} (hp : Spl E x F) (hm : At E x (.own l)) (hn : Nm C.nm x kd) (hv : VisK kd)
    (h : EvK C A a E u fun da u1 => ∃ (j : Nat) (n : Int), da = .int (j : Nat) ∧ l[j]? = some (.int n) ∧ EvK C A e E u1 fun db u2 => ∃ m : Int, db = .int m ∧ P.nx (F (.own (l.set j (.int (n + m))))) u2)
    (hd : (x == ("__debug__" : Str)) = false := by decide +kernel) (hc : (x == ("__classdict__" : Str)) = false := by decide +kernel)
    (ha : ∀ ov iv new, augStore a ov iv new = (do holding [new, ov, iv] (setItem ov iv new); release [new, ov, iv] []; pure .next) := by intros; rfl) :
    StK C A (.AugAssign (.Subscript (.Name x p) a p2) .Add e pos) E u P := by
  intro G0 H0 G H σ Ds he S X pins s hX I
  obtain ⟨i, pv, hi⟩ := own_var (p := p) hX he hm hn hv hd hc
  refine (ps_augS pv (pe_of hX a) get_p (pe_of hX e) ip_add set_list ha).run pins s σ H Ds I ?_
  obtain ⟨i', q, xs, hi', hσ, hH, hr, _, _⟩ := he.chg hp hm
  obtain ⟨jj, nm, rfl, hO, hK⟩ := id hX
  obtain rfl : i = i' := nodup_ix hK.nd hi hi'
  refine ⟨.ref q, hσ, ?_⟩
  refine h G0 H0 G H σ he _ fun da u1 v1 G1 H1 ⟨j, n, e1, e2, k1⟩ g1 st1 r1 => ?_
  subst e1
  simp only [Rp] at r1
  subst r1
  have he1 := he.go g1 st1
  obtain ⟨i2, q2, xs1, hi2, hσ1, hH1, hr1, _, _⟩ := he1.chg hp hm
  obtain rfl : i = i2 := nodup_ix hK.nd hi hi2
  obtain rfl : q = q2 := by rw [hσ] at hσ1; cases hσ1; rfl
  obtain ⟨y, ey, ry⟩ := hr1.getD e2
  simp only [Rp] at ry
  subst ry
  refine ⟨q, xs1, (j : Int), .int n, rfl, rfl, by omega, .inl (.inl hH1), by simpa using ey, ?_⟩
  refine k1 G0 H0 G1 H1 σ he1 _ fun db u2 v2 G2 H2 ⟨m, e3, k2⟩ g2 st2 r2 => ?_
  subst e3
  simp only [Rp] at r2
  subst r2
  have he2 := he1.go g2 st2
  obtain ⟨i3, q3, xs2, hi3, hσ2, hH2, hr2, ch, _⟩ := he2.chg hp hm
  obtain rfl : i = i3 := nodup_ix hK.nd hi hi3
  obtain rfl : q = q3 := by rw [hσ] at hσ2; cases hσ2; rfl
  have hj : j < xs2.length := by rw [hr2.len]; exact (List.getElem?_eq_some_iff.mp e2).1
  refine ⟨n, m, rfl, rfl, q, xs2, (j : Int), j, rfl, rfl, hH2, ?_, S.nx _ u2 G2 _ σ k2 (ch _ _ ?_)⟩
  · unfold ixN
    rw [if_pos (by omega), if_pos (by omega), Int.toNat_natCast]
  · exact RpA.set (show Rp _ G2 (.int (n + m)) (.int (n + m)) by simp only [Rp]) j hr2
end
end L3
namespace L3
open PySem PySem.Spec PyProof.Rows L2
section
variable {C : SC} {A : Amb} {E : NE} {u : A.U} {pos : Pos} {a b : Expr} {P : Post A}
/-- a list said over and over, new -/
theorem n_mul {Φ : List D → A.U → Prop} (h : EvK C A a E u fun da u1 => ∃ l, da = .lst l ∧ EvK C A b E u1 fun db u2 => ∃ j : Int, db = .int j ∧ -(2 ^ 63) ≤ j ∧ j < 2 ^ 63 ∧ l.length * j.toNat ≤ sizeLine ∧ Φ (List.replicate j.toNat l).flatten u2) :
    EvN C A (.BinOp a .Mult b pos) E u Φ := by
  refine EvN.of (tOp rRep (rE C a) (rE C b)) (fun X hX => pe_op op_rep (pe_of hX a) (pe_of hX b)) fun G0 H0 G H σ he Q q => ?_
  refine h G0 H0 G H σ he _ fun da u1 v1 G1 H1 ⟨l, e1, k1⟩ g1 st1 r1 => ?_
  subst e1
  refine k1 G0 H0 G1 H1 σ (he.go g1 st1) _ fun db u2 v2 G2 H2 ⟨j, e2, h1, h2, h3, k2⟩ g2 st2 r2 => ?_
  subst e2
  have r1' := r1.mono g2.gg
  simp only [Rp] at r1' r2
  obtain ⟨q1, xs, rfl, z1, z2⟩ := r1'
  subst r2
  refine ⟨q1, j, xs, rfl, rfl, g2.gh _ _ z1, h1, h2, by rw [z2.len]; exact h3, fun p hp => ?_⟩
  have g3 : Grow noFoot noFoot G2 H2 G2 (upd H2 p (.lst (List.replicate j.toNat xs).flatten)) := Grow.own g2.gh hp
  have gg := g1.trans g2
  have hH : H p = none := by
    cases w : H p with
    | none => rfl
    | some o => exact absurd hp (gg.th p (by rw [w]; simp))
  exact q _ u2 p _ G2 _ k2 (gg.trans g3.weak) (A.grow st2 g3) hH (g2.gh.back hp) (fun f => A.there _ _ _ st2 p f hp) upd_same (z2.rep _)
/-- a, b = a datum, a new list of one's own -/
theorem s_parN [hh : Cold C] {x y : Str} {px py pt pt2 : Pos} {kt k2} {F : Sl → NE} {F2 : Sl → Sl → NE} (hx : Spl E x F) (hy : ∀ s, Spl (F s) y (F2 s)) (nx : Nm C.nm x .local) (ny : Nm C.nm y .local)
    (h : EvK C A a E u fun d u1 => EvN C A b E u1 fun l u2 => P.nx (F2 (.dat d) (.own l)) u2)
    (hst : ∀ env, starEach [a, b] env = (false, eval a env) :: starEach [b] env := by intro _; rfl) (hst2 : ∀ env, starEach [b] env = [(false, eval b env)] := by intro _; rfl)
    (hp : px.line = py.line := by rfl) (hxy : x ≠ y := by decide +kernel) (ha : plainV a = true := by rfl) (hb : plainV b = true := by rfl) (f1 : [a, b].all (foldedForSure 8) = false := by rfl) (f2 : [a, b].all (constantsAlone 8) = false := by rfl)
    (hs : ∀ env, swapsWithSole [.Tuple [.Name x px, .Name y py] kt pt] (.Tuple [a, b] k2 pt2) pos.line env = pure false := by intro _; rfl) : StK C A (.Assign [.Tuple [.Name x px, .Name y py] kt pt] (.Tuple [a, b] k2 pt2) pos) E u P := by
  intro G0 H0 G H σ Ds he S X pins s hX I
  obtain ⟨k, nm, rfl, hO, hK⟩ := id hX
  obtain ⟨i, hi⟩ := he.ix hx
  have lx := nx.isLoc hO
  have ly := ny.isLoc hO
  obtain ⟨j, hj⟩ : ∃ j : Nat, X.N[j]? = some y := by
    obtain ⟨h1, h2, ⟨t, h3⟩, h4⟩ := (hy .un).spec .un
    rcases (hx.spec .un).2.2.2 _ h3 with e | e
    · exact absurd (Prod.mk.inj e).1.symm hxy
    · obtain ⟨α, e1, _⟩ := he.ent
      obtain ⟨j, h, _⟩ := e1 y t e
      exact ⟨j, h⟩
  have hij : i ≠ j := fun z => by subst z; exact hxy (Option.some.inj (hi.symm.trans hj))
  refine (ps_par (i := i) (j := j) (hK.calm hh.h) hK.nd hi hj hij lx ly (pa_cons (pe_of hX a) (pa_cons (pe_of hX b) pa_nil (hst2 X.env)) (hst X.env)) (sw_some lx ly I.ok.kind hp hxy ha hb f1 f2) (hs X.env)).run pins s σ H Ds I ?_
  refine h G0 H0 G H σ he _ fun d u1 v G1 H1 p1 g1 st1 r1 => ?_
  refine p1 G0 H0 G1 H1 σ (he.go g1 st1) _ fun l u2 q xs G2 H2 k2 g2 st2 z1 z2 z3 z4 r2 => ?_
  refine ⟨v, .ref q, rfl, ?_⟩
  have he1 := (he.go g1 st1).go g2 st2
  have he2 := he1.put hx hi I.len hK.nd (r1.mono g2.gg)
  have hH0 : H0 q = none := by
    cases w : H0 q with
    | none => rfl
    | some o => exact absurd z1 ((he.go g1 st1).gr.th q (by rw [w]; simp))
  refine S.nx _ u2 G2 H2 _ k2 (he2.putOwn (hy (.dat d)) hj (by rw [List.length_set]; exact I.len) hK.nd z2 hH0 z3 z4 r2 ?_)
  intro z t ad m ne o hz e
  subst e
  obtain ⟨α, e1, _⟩ := (he.go g1 st1).ent
  rcases (hx.spec (.dat d)).2.2.2 _ m with w | w
  · obtain ⟨rfl, rfl⟩ := Prod.mk.inj w
    exact (show False from o).elim
  obtain ⟨n, f1, f2⟩ := e1 z t w
  have nx' : n ≠ i := fun q' => by
    subst q'
    have : z = x := Option.some.inj (f1.symm.trans hi)
    subst this
    have := nodup_key (by rw [(hx.spec (.dat d)).1]; exact he.nd) m (hx.spec (.dat d)).2.1
    subst this
    exact (show False from o).elim
  have hn := hz n f1
  rw [List.getElem?_set_ne (Ne.symm nx')] at hn
  have key : ∀ {ob : HO}, σ[n]? = some (some (V.ref (α z))) → H1 (α z) = some ob → False := fun {ob} w1 w2 => by
    rw [hn] at w1
    have w3 := Option.some.inj (Option.some.inj w1)
    have w4 : ad = α z := by injection w3
    rw [← w4, z1] at w2
    cases w2
  cases t with
  | own _ => obtain ⟨w1, _, _, _, _, w2, _⟩ := f2; exact key w1 w2
  | ownD _ => obtain ⟨w1, _, _, _, _, w2, _⟩ := f2; exact key w1 w2
  | ownX _ => obtain ⟨w1, _, _, _, _, w2, _⟩ := f2; exact key w1 w2
  | _ => exact (show False from o).elim
end
end L3
namespace L3
open PySem PySem.Spec PyProof.Rows L2
section
variable {C : SC} {A : Amb} {E : NE} {u : A.U} {Ψ : Bool → A.U → Prop} {pos : Pos} {a : Expr}
theorem t_isN {j p'} (h : EvK C A a E u fun d u' => Ψ (isN d) u') : EvT C A (.Compare a [.Is] [.Constant .none j p'] pos) E u Ψ := by
  refine EvT.of _ (fun X hX => pt_cmp (pc_isN (pe_of hX a)) rfl) fun G0 H0 G H σ he Q q => ?_
  refine h G0 H0 G H σ he _ fun d u1 v G1 H1 p g s r => ?_
  have e : decide (v = V.non) = isN d := by
    cases d <;> simp only [Rp] at r <;> first | (subst r; rfl) | (obtain ⟨_, _, rfl, _⟩ := r; rfl) | (obtain ⟨_, _, _, rfl, _⟩ := r; rfl)
  exact ⟨_, rfl, by rw [e]; exact q _ u1 G1 H1 p g s⟩
theorem t_notN {j p'} (h : EvK C A a E u fun d u' => Ψ (!isN d) u') : EvT C A (.Compare a [.IsNot] [.Constant .none j p'] pos) E u Ψ := by
  refine EvT.of _ (fun X hX => pt_cmp (pc_notN (pe_of hX a)) rfl) fun G0 H0 G H σ he Q q => ?_
  refine h G0 H0 G H σ he _ fun d u1 v G1 H1 p g s r => ?_
  have e : (!decide (v = V.non)) = !isN d := by
    cases d <;> simp only [Rp] at r <;> first | (subst r; rfl) | (obtain ⟨_, _, rfl, _⟩ := r; rfl) | (obtain ⟨_, _, _, rfl, _⟩ := r; rfl)
  exact ⟨_, rfl, by rw [e]; exact q _ u1 G1 H1 p g s⟩
end
end L3
namespace L3
open PySem PySem.Spec PyProof.Rows L2
section
variable {C : SC} {A : Amb} {E Eb : NE} {u : A.U} {pos px py tpos : Pos} {elt iter : Expr} {scope : Scope} {ifs : List Expr} {kk : Nat}
/-- [e for x, y in pairs if t], each turn told by itself, the state as it was -/
theorem l_pair {Φ : List D → A.U → Prop} {x y : Str} {kx ky : NameKind} {F : Sl → NE} {F2 : Sl → Sl → NE} (hw : Wip E ([x] ++ ([y] ++ [])) Eb) (hb : blkB C.N C.nm scope ([x] ++ ([y] ++ [])) = true) (hx : Spl Eb x F) (hy : ∀ s, Spl (F s) y (F2 s))
    (nx : Nm scope.names x kx) (ny : Nm scope.names y ky) (lx : LocK kx) (ly : LocK ky)
    (h : EvI C A (.Tuple [.Name x px, .Name y py] kk tpos) iter E u fun ds u1 => ∃ (ps : List (D × D)) (g : D × D → Bool) (f : D × D → D), ds = ps.map (fun p => .tup [p.1, p.2]) ∧ ps.length ≤ 10000000 ∧
      (∀ p ∈ ps, EvTs (C.blk scope) A ifs (F2 (.dat p.1) (.dat p.2)) u1 fun t u2 => t = g p ∧ u2 = u1) ∧ (∀ p ∈ ps, g p = true → EvK (C.blk scope) A elt (F2 (.dat p.1) (.dat p.2)) u1 fun r u2 => r = f p ∧ u2 = u1) ∧ Φ ((ps.filter g).map f) u1) :
    LcN C A elt (.Tuple [.Name x px, .Name y py] kk tpos) iter ifs scope E u Φ := by
  refine l_lc hw hb ?_
  intro G0 H0 G H σ he R k
  refine h G0 H0 G H σ he R fun ds u1 J G1 H1 ⟨ps, g, f, e, hl, ht, hf, q⟩ => k ds u1 J G1 H1 ⟨fun i acc u' => acc = ((ps.take i).filter g).map f ∧ u' = u1, ⟨by simp, rfl⟩, ?_, ?_⟩
  · rintro i d acc u' hd ⟨rfl, rfl⟩
    rw [e, List.getElem?_map] at hd
    obtain ⟨p, hp, rfl⟩ := Option.map_eq_some_iff.mp hd
    have hm := List.mem_of_getElem? hp
    have hi : i < ps.length := (List.getElem?_eq_some_iff.mp hp).1
    have nxt : (ps.take (i + 1)).filter g = (ps.take i).filter g ++ (if g p = true then [p] else []) := by
      rw [List.take_add_one, hp, List.filter_append]
      show _ ++ List.filter g [p] = _
      rw [List.filter_cons]
      rfl
    refine tg_two (tg_name hx nx lx (tg_name (hy _) ny ly ?_))
    intro G0 H0 G H σ he Q kq
    refine ht p hm G0 H0 G H σ he Q fun b u2 G2 H2 ⟨eb, eu⟩ g2 st2 => kq b u2 G2 H2 ?_ g2 st2
    subst eb eu
    refine ⟨fun hb => ?_, fun hb => ⟨?_, rfl⟩⟩
    · refine (hf p hm hb).imp ?_
      rintro r u3 ⟨rfl, rfl⟩
      refine ⟨?_, ?_, rfl⟩
      · have := List.length_filter_le g (ps.take i)
        rw [List.length_take] at this
        rw [List.length_map, sizeLine_eq]; omega
      · rw [nxt, if_pos hb, List.map_append]; rfl
    · rw [nxt, if_neg (by rw [hb]; decide), List.append_nil]
  · rintro acc u' ⟨rfl, rfl⟩
    rw [e, List.length_map, List.take_length]
    exact q
end
end L3
namespace L3
open PySem PySem.Spec PyProof.Rows L2
/-! ### loops with a state: names that are not told are forgotten -/
theorem Fg.imp {E F F' : NE} (h : Fg E F) (k : Fg F F') : Fg E F' := by
  induction E generalizing F F' with
  | nil => cases F with
    | nil => exact k
    | cons _ _ => exact h.elim
  | cons p E ih => cases F with
    | nil => exact h.elim
    | cons q F => cases F' with
      | nil => exact k.elim
      | cons r F' =>
        refine ⟨?_, ih h.2 k.2⟩
        rcases h.1 with a | a <;> rcases k.1 with b | b
        · exact .inl (a.trans b)
        · exact .inr (by rw [b, a])
        · exact .inr (by rw [← b, a])
        · exact .inr (by rw [b, a])
section
variable {C : SC} {A : Amb} {E : NE} {u : A.U} {P P2 : Post A} {pos : Pos} {Φ : D → A.U → Prop}
theorem tg_fg {tg : Expr} {d : D} {F : NE} {xs : List Str} {Θ : NE → Prop} (h : Fg E F) (q : TgK C A tg d F u xs Θ) : TgK C A tg d E u xs Θ :=
  fun G0 H0 G H σ v he r Q k => q G0 H0 G H σ v (he.fg h) r Q k
theorem st_fg {st : Stmt} (h : StK C A st E u { P with nx := fun E u => ∃ F, Fg E F ∧ P.nx F u }) : StK C A st E u P :=
  fun G0 H0 G H σ Ds he S => h G0 H0 G H σ Ds he ⟨fun E u G H σ ⟨F, a, b⟩ he => S.nx F u G H σ b (he.fg a), S.bk, S.ct, S.rt⟩
/-- a loop with states; it does not break -/
theorem s_forSR [hh : Cold C] {S : Type} {tg iter : Expr} {body : List Stmt} {xs : List Str} (R0 : D → A.U → Prop) (hR : ∀ d u, R0 d u → P.rt d u) (h : EvI C A tg iter E u fun ds u1 => ∃ (Ev : S → NE) (R : Nat → S → A.U → Prop) (s0 : S), Fg E (Ev s0) ∧ R 0 s0 u1 ∧
      (∀ k d s u', ds[k]? = some d → R k s u' → TgK C A tg d (Ev s) u' xs fun E2 => RunK C A body E2 u' { nx := fun E3 u3 => ∃ s', Fg E3 (Ev s') ∧ R (k + 1) s' u3, ct := fun E3 u3 => ∃ s', Fg E3 (Ev s') ∧ R (k + 1) s' u3, bk := fun _ _ => False, rt := R0 }) ∧
      ∀ s u', R ds.length s u' → P.nx (Ev s) u')
    (hs : ∀ env x, foldedSetIterable iter env x = pure x := by intro _ _; rfl) : StK C A (.For tg iter body [] pos) E u P := by
  refine st_fg (s_forR (xs := xs) R0 hR ?_ hs)
  intro G0 H0 G H σ he Rr k
  refine h G0 H0 G H σ he Rr fun ds u1 J G1 H1 ⟨Ev, I, s0, h0, h1, h2, h3⟩ => k ds u1 J G1 H1 ⟨fun k E' u' => ∃ s, Fg E' (Ev s) ∧ I k s u', ⟨s0, h0, h1⟩, fun i d E' u' hd ⟨s, hF, hi⟩ => tg_fg hF (h2 i d s u' hd hi), fun E' u' ⟨s, hF, hi⟩ => ⟨Ev s, hF, h3 s u' hi⟩⟩
theorem rgs_map (n : Nat) : rgs 0 n = (List.range n).map fun i : Nat => D.int (i : Int) := by
  unfold rgs
  exact List.map_congr_left fun i _ => by rw [Int.zero_add]
end
end L3
namespace L3
open PySem PySem.Spec PyProof.Rows L2
/-! ### what can be shown by repr: bounds by depth -/
structure Rs (B n k : Nat) (d : D) : Prop where
  pl : d.pl = true
  sh : (pd d).showable = true
  lv : (pd d).leavesShort B = true
  wt : (pd d).weight ≤ n
  dp : (pd d).depth ≤ k
theorem Rs.mono {B n k n' k' : Nat} {d : D} (h : Rs B n k d) (h1 : n ≤ n') (h2 : k ≤ k') : Rs B n' k' d := ⟨h.pl, h.sh, h.lv, Nat.le_trans h.wt h1, Nat.le_trans h.dp h2⟩
theorem Rs.non {B : Nat} : Rs B 0 0 .non := ⟨rfl, rfl, rfl, Nat.le_refl _, Nat.le_refl _⟩
theorem Rs.bl {B : Nat} {b : Bool} : Rs B 0 0 (.bl b) := ⟨rfl, rfl, rfl, Nat.le_refl _, Nat.le_refl _⟩
theorem Rs.int {B : Nat} {i : Int} (hB : 13 ≤ B) (h : i.natAbs < 10 ^ 12) : Rs B 41 0 (.int i) := by
  have h1 := lg12 h
  refine ⟨rfl, ?_, ?_, ?_, Nat.le_refl _⟩
  · simp only [pd, PyData.showable, decide_eq_true_eq]; omega
  · have := PyData.shown_int_le h
    simp only [pd, PyData.leavesShort, decide_eq_true_eq]; omega
  · simp only [pd, PyData.weight]; split <;> omega
theorem Rs.big {i : Int} (h : i.natAbs < 2 ^ 1900) : Rs 600 1901 0 (.int i) := by
  have h1 : i.natAbs.log2 < 1900 := by
    by_cases z : i.natAbs = 0
    · rw [z]; decide
    · exact (Nat.log2_lt z).mpr h
  refine ⟨rfl, ?_, ?_, ?_, Nat.le_refl _⟩
  · simp only [pd, PyData.showable, decide_eq_true_eq]; omega
  · have h2 : i.natAbs < 10 ^ 599 := Nat.lt_of_lt_of_le h (by decide +kernel)
    have e := int_text_length_le10 (k := 599) (by decide) h2
    simp only [pd, PyData.leavesShort, decide_eq_true_eq]
    show (Str.ofString (toString i)).length ≤ 600
    rw [PySem.ofString_length]; exact e
  · simp only [pd, PyData.weight]; split <;> omega
theorem Rs.str {B : Nat} {s : Str} (h : ∀ c ∈ s.cps.toList, c < 16 ^ 8) : Rs B s.length 0 (.str s) := by
  refine ⟨rfl, rfl, ?_, ?_, Nat.le_refl _⟩
  · simp only [pd, PyData.leavesShort, List.all_eq_true, decide_eq_true_eq]; exact h
  · simp only [pd, PyData.weight]; exact Nat.le_refl _
theorem Rs.all {B n k : Nat} : ∀ {ds : List D}, (∀ d ∈ ds, Rs B n k d) → D.plA ds = true ∧ PyData.showableAll (pdA ds) = true ∧ PyData.leavesShortAll B (pdA ds) = true ∧ PyData.weightAll (pdA ds) ≤ ds.length * (n + 1) ∧ PyData.depthAll (pdA ds) ≤ k
  | [], _ => ⟨rfl, rfl, rfl, Nat.zero_le _, Nat.zero_le _⟩
  | d :: ds, h => by
    obtain ⟨h1, h2, h3, h4, h5⟩ := h d List.mem_cons_self
    obtain ⟨k1, k2, k3, k4, k5⟩ := Rs.all fun e m => h e (List.mem_cons_of_mem _ m)
    simp only [D.plA, pdA, PyData.showableAll, PyData.leavesShortAll, PyData.weightAll, PyData.depthAll, h1, h2, h3, k1, k2, k3, Bool.and_self, List.length_cons, Nat.succ_mul, true_and]
    omega
theorem Rs.tup {B n k : Nat} {ds : List D} (h : ∀ d ∈ ds, Rs B n k d) : Rs B (ds.length * (n + 1)) (k + 1) (.tup ds) := by
  obtain ⟨h1, h2, h3, h4, h5⟩ := Rs.all h
  exact ⟨by simp only [D.pl]; exact h1, by simp only [pd, PyData.showable]; exact h2, by simp only [pd, PyData.leavesShort]; exact h3, by simp only [pd, PyData.weight]; exact h4, by simp only [pd, PyData.depth]; omega⟩
theorem Rs.lst {B n k : Nat} {ds : List D} (h : ∀ d ∈ ds, Rs B n k d) : Rs B (ds.length * (n + 1)) (k + 1) (.lst ds) := by
  obtain ⟨h1, h2, h3, h4, h5⟩ := Rs.all h
  exact ⟨by simp only [D.pl]; exact h1, by simp only [pd, PyData.showable]; exact h2, by simp only [pd, PyData.leavesShort]; exact h3, by simp only [pd, PyData.weight]; exact h4, by simp only [pd, PyData.depth]; omega⟩
section
variable {C : SC} {A : Amb} {E : NE} {u : A.U} {P : Post A} {pos p : Pos}
theorem s_unpC2 {x y : Str} {px py : Pos} {j : Nat} {e : Expr} (hc : Nm C.nm x .cell ∨ Nm C.nm y .cell) (h : EvK C A e E u fun d u' => TgK C A (.Tuple [.Name x px, .Name y py] j p) d E u' ([x] ++ ([y] ++ [])) fun E' => P.nx E' u')
    (hs : ∀ env, swapsWithSole [.Tuple [.Name x px, .Name y py] j p] e pos.line env = pure false := by intro _; rfl) : StK C A (.Assign [.Tuple [.Name x px, .Name y py] j p] e pos) E u P := s_unpC hc h hs
end
end L3
namespace L3
open PySem PySem.Spec PyProof.Rows L2
/-! ### own lists read, popped -/
def D.atom : D → Bool
  | .non | .bl _ | .int _ | .str _ | .ty _ | .obj _ => true
  | _ => false
theorem Rp.atm {K : PySem.W.Frag} {G G' : Hp} {d : D} {v : V} (h : d.atom = true) (r : Rp K G d v) : Rp K G' d v := by
  cases d <;> simp only [D.atom] at h <;> first | (cases h; done) | (simp only [Rp] at r ⊢; exact r)
section
variable {C : SC} {A : Amb} {E : NE} {u : A.U} {P : Post A} {pos p apos spos cpos : Pos} {e a b : Expr} {Φ : D → A.U → Prop} {Ψ : Bool → A.U → Prop}
/-- e gives a value that is known for the time being -/
def EvB (C : SC) (A : Amb) (e : Expr) (E : NE) (u : A.U) (Φ : D → A.U → Prop) : Prop :=
  ∀ G0 H0 G H σ, Env C A G0 H0 u G H E σ → ∀ Q : VK, (∀ d u' v G' H' GB, Φ d u' → Grow (A.foot u) (A.foot u') G H G' H' → A.st u' G' H' → Kn G' GB → Kn GB H' → (∀ a o, GB a = some o → G' a = some o ∨ ¬ A.foot u' a) → Rp C.K GB d v → Q v H') → rE C e σ H Q
theorem b_of_k (h : EvK C A e E u Φ) : EvB C A e E u Φ := fun G0 H0 G H σ he Q q => h G0 H0 G H σ he Q fun d u' v G' H' p g st r => q d u' v G' H' G' p g st (Kn.refl _) g.gh (fun a o z => .inl z) r
theorem own_at {x : Str} {l : List D} {G0 : Beg} {H0 G H : Hp} {σ : L2.St} (he : Env C A G0 H0 u G H E σ) (hm : At E x (.own l)) : ∃ (i : Nat) (q : Addr) (xs : List V), C.N[i]? = some x ∧ σ[i]? = some (some (.ref q)) ∧ G q = none ∧ ¬ A.foot u q ∧ H q = some (.lst xs) ∧ RpA C.K G l xs := by
  obtain ⟨α, e1, _⟩ := he.ent
  obtain ⟨i, hi, h1, h2, _, h4, xs, h5, h6⟩ := e1 x _ hm.mem
  exact ⟨i, α x, xs, hi, h1, h2, h4, h5, h6⟩
theorem b_own {x : Str} {l : List D} {kd : NameKind} (hm : At E x (.own l)) (hn : Nm C.nm x kd) (hv : VisK kd) (q : Φ (.lst l) u) (hd : (x == ("__debug__" : Str)) = false := by decide +kernel) (hc : (x == ("__classdict__" : Str)) = false := by decide +kernel) : EvB C A (.Name x p) E u Φ := by
  intro G0 H0 G H σ he Q k X pins s hX I
  obtain ⟨i, pv, hi⟩ := own_var (p := p) hX he hm hn hv hd hc
  obtain ⟨i', z, xs, hi', hσ, hG, hf, hH, hr⟩ := own_at he hm
  obtain ⟨j, nm, rfl, hO, hK⟩ := id hX
  obtain rfl : i = i' := nodup_ix hK.nd hi hi'
  have kn := Kn.new (G := G) (p := z) (o := .lst xs) hG
  refine pv.run pins s σ H Q I ⟨.ref z, hσ, k (.lst l) u _ G H (upd G z (.lst xs)) q (Grow.refl he.kn) he.st kn (fun a o w => ?_) (fun a o w => ?_) ?_⟩
  · by_cases w2 : a = z
    · subst w2; rw [upd_same] at w; cases w; exact hH
    · rw [upd_ne w2] at w; exact he.kn a o w
  · by_cases w2 : a = z
    · subst w2; exact .inr hf
    · rw [upd_ne w2] at w; exact .inl w
  · simp only [Rp]
    exact ⟨z, xs, rfl, upd_same, hr.mono kn⟩
/-- two known parts as one -/
def uni (G B : Hp) : Hp := fun a => match G a with | some o => some o | none => B a
theorem uni_l (G B : Hp) : Kn G (uni G B) := fun a o h => by unfold uni; rw [h]
theorem two_atB {f : D → D → (D → Prop) → Prop} (h : EvB C A a E u fun da u1 => EvB C A b E u1 fun db u2 => f da db fun d => d.atom = true ∧ Φ d u2) :
    ∀ G0 H0 G H σ, Env C A G0 H0 u G H E σ → ∀ Q : VK, (∀ d u' v G' H', Φ d u' → Grow (A.foot u) (A.foot u') G H G' H' → A.st u' G' H' → Rp C.K G' d v → Q v H') → tOp (rD C.K f) (rE C a) (rE C b) σ H Q := by
  intro G0 H0 G H σ he Q q
  refine h G0 H0 G H σ he _ fun da u1 v1 G1 H1 B1 p1 g1 s1 k1 k1' n1 r1 => ?_
  refine p1 G0 H0 G1 H1 σ (he.go g1 s1) _ fun db u2 v2 G2 H2 B2 p2 g2 s2 k2 k2' n2 r2 => ?_
  have b1 : ∀ a o, B1 a = some o → G2 a = none → H2 a = some o := fun a o h1 h2 => by
    rcases n1 a o h1 with w | w
    · exact absurd (g2.gg a o w) (by rw [h2]; simp)
    · exact g2.hh a o w (k1' a o h1)
  have knB1 : Kn B1 (uni B2 B1) := fun a o h1 => by
    unfold uni
    cases w : B2 a with
    | none => exact h1
    | some o2 =>
      have h3 := k2' a o2 w
      show some o2 = some o
      cases w2 : G2 a with
      | none => rw [b1 a o h1 w2] at h3; exact h3.symm
      | some o3 =>
        rcases n1 a o h1 with z | z
        · rw [k2 a o (g2.gg a o z)] at w; exact w.symm
        · rw [g2.hh a o z (k1' a o h1)] at h3; exact h3.symm
  have knH : Kn (uni B2 B1) H2 := fun a o h1 => by
    unfold uni at h1
    cases w : B2 a with
    | none =>
      rw [w] at h1
      refine b1 a o h1 ?_
      cases z : G2 a with
      | none => rfl
      | some o2 => rw [k2 a o2 z] at w; cases w
    | some o2 => rw [w] at h1; cases h1; exact k2' a _ w
  refine ⟨uni B2 B1, da, db, _, knH, r1.mono knB1, r2.mono (uni_l _ _), p2, fun d v G' H' ⟨ha, hd⟩ g3 r3 => ?_⟩
  have g4 : Grow noFoot noFoot G2 H2 G2 H' := ⟨Kn.refl _, fun a o w => g3.hh a o (fun z => z) (g2.gh a o w), g3.hh, g3.th, fun a w n => absurd w n, fun _ => .inl⟩
  exact q d u2 v G2 H' hd ((g1.trans g2).trans g4.weak) (A.grow s2 g4) (r3.atm ha)
theorem k_cmpB {op : CmpOp} {f : D → D → (Bool → Prop) → Prop} (hs : OpS C (compareOp op) (toB f)) (h : EvB C A a E u fun da u1 => EvB C A b E u1 fun db u2 => f da db fun k => Φ (.bl k) u2)
    (hf : ∀ x y P P', (∀ k, P k → P' k) → f x y P → f x y P') (hm : behindInMarks op b = false) : EvK C A (.Compare a [op] [b] pos) E u Φ :=
  EvK.of (tOp (rD C.K (toB f)) (rE C a) (rE C b)) (fun X hX => pe_cmpR (hs X hX) (pe_of hX a) (pe_of hX b) hm) (two_atB (f := toB f) (fun G0 H0 G H σ he Q q => h G0 H0 G H σ he Q fun da u1 v G1 H1 B p => q da u1 v G1 H1 B
    fun G0 H0 G H σ he Q q => p G0 H0 G H σ he Q fun db u2 v G1 H1 B p => q db u2 v G1 H1 B (hf _ _ _ _ (fun k z => ⟨rfl, z⟩) p)))
theorem t_cmpB {op : CmpOp} {f : D → D → (Bool → Prop) → Prop} (hs : OpS C (compareOp op) (toB f)) (h : EvB C A a E u fun da u1 => EvB C A b E u1 fun db u2 => f da db fun k => Ψ k u2)
    (hf : ∀ x y P P', (∀ k, P k → P' k) → f x y P → f x y P') (hm : behindInMarks op b = false) : EvT C A (.Compare a [op] [b] pos) E u Ψ := by
  refine EvT.of (tTest (tOp (rD C.K (toB f)) (rE C a) (rE C b))) (fun X hX => pt_cmpR (hs X hX) (pe_of hX a) (pe_of hX b) hm) fun G0 H0 G H σ he Q q => ?_
  refine two_atB (f := toB f) (Φ := fun d u' => ∃ k, d = .bl k ∧ Ψ k u') (fun G0 H0 G H σ he Q q => h G0 H0 G H σ he Q fun da u1 v G1 H1 B p => q da u1 v G1 H1 B
    fun G0 H0 G H σ he Q q => p G0 H0 G H σ he Q fun db u2 v G1 H1 B p => q db u2 v G1 H1 B (hf _ _ _ _ (fun k z => ⟨rfl, k, rfl, z⟩) p)) G0 H0 G H σ he _ fun d u' v G' H' ⟨k, e, p⟩ g s r => ?_
  subst e
  simp only [Rp] at r
  subst r
  exact ⟨k, rfl, q k u' G' H' p g s⟩
theorem eqB_mono : ∀ (x y : D) (P P' : Bool → Prop), (∀ k, P k → P' k) → eqB x y P → eqB x y P' := by
  intro x y P P' h k
  cases x <;> cases y <;> first | exact h _ k | exact ⟨k.1, h _ k.2⟩
theorem neB_mono : ∀ (x y : D) (P P' : Bool → Prop), (∀ k, P k → P' k) → neB x y P → neB x y P' := by
  intro x y P P' h k
  cases x <;> cases y <;> first | exact h _ k | exact ⟨k.1, h _ k.2⟩
/-- x[i], x an own list -/
theorem k_ixO {x : Str} {l : List D} {kd : NameKind} (hm : At E x (.own l)) (hn : Nm C.nm x kd) (hv : VisK kd) (h : EvK C A b E u fun db u2 => ∃ (i : Int) (d : D), db = .int i ∧ atI l i = some d ∧ Φ d u2)
    (hx : PlainIx b := by exact fun _ _ => rfl) (hd : (x == ("__debug__" : Str)) = false := by decide +kernel) (hc : (x == ("__classdict__" : Str)) = false := by decide +kernel) : EvK C A (.Subscript (.Name x p) b pos) E u Φ := by
  intro G0 H0 G H σ he Q k X pins s hX I
  obtain ⟨i, pv, hi⟩ := own_var (p := p) hX he hm hn hv hd hc
  obtain ⟨i', z, xs, hi', hσ, hG, hf, hH, hr⟩ := own_at he hm
  obtain ⟨j, nm, rfl, hO, hK⟩ := id hX
  obtain rfl : i = i' := nodup_ix hK.nd hi hi'
  refine (pe_ix ix_list pv (pe_of hX b) hx).run pins s σ H Q I ⟨.ref z, hσ, ?_⟩
  refine h G0 H0 G H σ he _ fun db u2 v G1 H1 ⟨n, d, e1, e2, q⟩ g st r => ?_
  subst e1
  simp only [Rp] at r
  subst r
  obtain ⟨w, hw, rw_⟩ := (hr.mono g.gg).atI e2
  exact ⟨z, xs, n, w, rfl, rfl, SqL.of (g.hh _ _ hf hH), hw, k d u2 w G1 H1 q g st rw_⟩
/-- len(x), x an own list -/
theorem k_lenO {x : Str} {l : List D} {kd : NameKind} {q1 : Pos} (hm : At E x (.own l)) (hn : Nm C.nm x kd) (hv : VisK kd) (hl : Nm C.nm "len" .globalImplicit) (hg : C.mg "len" = none) (q : Φ (.int l.length) u)
    (hd : (x == ("__debug__" : Str)) = false := by decide +kernel) (hc : (x == ("__classdict__" : Str)) = false := by decide +kernel) : EvK C A (.Call (.Name "len" q1) [.Name x p] [] pos) E u Φ := by
  intro G0 H0 G H σ he Q k X pins s hX I
  obtain ⟨i, pv, hi⟩ := own_var (p := p) hX he hm hn hv hd hc
  obtain ⟨i', z, xs, hi', hσ, hG, hf, hH, hr⟩ := own_at he hm
  obtain ⟨j, nm, rfl, hO, hK⟩ := id hX
  obtain rfl : i = i' := nodup_ix hK.nd hi hi'
  refine (pe_callB call_len_seq (hl.gl hO) hg PySem.boot_len (pa_cons pv pa_nil)).run pins s σ H Q I ⟨.ref z, hσ, z, xs, rfl, .inl (SqL.of hH), ?_⟩
  rw [hr.len]
  exact k (.int l.length) u _ G H q (Grow.refl he.kn) he.st (by simp only [Rp])
/-- e changes own lists -/
def EvM (C : SC) (A : Amb) (e : Expr) (E : NE) (u : A.U) (Φ : D → NE → A.U → Prop) : Prop :=
  ∀ G0 H0 G H σ, Env C A G0 H0 u G H E σ → ∀ Q : VK, (∀ d E' u' v G' H', Φ d E' u' → Env C A G0 H0 u' G' H' E' σ → Rp C.K G' d v → Q v H') → rE C e σ H Q
theorem m_pop {x : Str} {F : Sl → NE} {l : List D} {kd : NameKind} {Θ : D → NE → A.U → Prop} (hp : Spl E x F) (hm : At E x (.own l)) (hn : Nm C.nm x kd) (hv : VisK kd) (q : ∃ d, l[l.length - 1]? = some d ∧ Θ d (F (.own l.dropLast)) u)
    (hd : (x == ("__debug__" : Str)) = false := by decide +kernel) (hc : (x == ("__classdict__" : Str)) = false := by decide +kernel)
    (hb : ∀ env, attributeBase (.Name x p) "pop" env (eval (.Name x p) env) = eval (.Name x p) env := by intro _; rfl) (hl : (apos.endLine == cpos.line) = true := by rfl) : EvM C A (.Call (.Attribute (.Name x p) "pop" apos) [] [] cpos) E u Θ := by
  intro G0 H0 G H σ he Q k X pins s hX I
  obtain ⟨i, pv, hi⟩ := own_var (p := p) hX he hm hn hv hd hc
  obtain ⟨i', z, xs, hi', hσ, hH, hr, ch, _⟩ := he.chg hp hm
  obtain ⟨j, nm, rfl, hO, hK⟩ := id hX
  obtain rfl : i = i' := nodup_ix hK.nd hi hi'
  obtain ⟨d, e1, e2⟩ := q
  obtain ⟨w, hw, rw_⟩ := hr.getD e1
  rw [← hr.len] at hw
  refine (pe_bm0 PySem.F.plainAttrs_list PySem.F.slot_list_pop PySem.F.type_list_pop mt_pop pv (hb X.env) hl).run pins s σ H Q I ⟨.ref z, hσ, .inl ⟨rfl, xs, .inl (.inl hH)⟩, z, xs, w, rfl, rfl, hH, hw, ?_⟩
  have hr2 : RpA (stat X j nm).K G l.dropLast xs.dropLast := by rw [List.dropLast_eq_take, List.dropLast_eq_take, hr.len]; exact hr.take _
  exact k d _ u w G _ e2 (ch _ _ hr2) rw_
theorem RpA.erase {K : PySem.W.Frag} {G : Hp} : ∀ {ds : List D} {xs : List V} (i : Nat), RpA K G ds xs → RpA K G (ds.eraseIdx i) (xs.eraseIdx i)
  | [], xs, i, h => by rw [RpA.nil_iff] at h; subst h; exact RpA.nil_iff.mpr rfl
  | d :: ds, xs, 0, h => by
    rw [RpA.cons_iff] at h
    obtain ⟨x, r, rfl, _, h2⟩ := h
    exact h2
  | d :: ds, xs, i + 1, h => by
    rw [RpA.cons_iff] at h
    obtain ⟨x, r, rfl, h1, h2⟩ := h
    exact RpA.cons h1 (RpA.erase i h2)
theorem m_popAt {x : Str} {F : Sl → NE} {l : List D} {kd : NameKind} {Θ : D → NE → A.U → Prop} (hp : Spl E x F) (hm : At E x (.own l)) (hn : Nm C.nm x kd) (hv : VisK kd)
    (h : EvK C A e E u fun di u' => ∃ (i : Nat) (d : D), di = .int (i : Int) ∧ l[i]? = some d ∧ i < 2 ^ 62 ∧ Θ d (F (.own (l.eraseIdx i))) u')
    (hs : ∀ env, starEach [e] env = [(false, eval e env)] := by intro _; rfl) (hd : (x == ("__debug__" : Str)) = false := by decide +kernel) (hc : (x == ("__classdict__" : Str)) = false := by decide +kernel)
    (hb : ∀ env, attributeBase (.Name x p) "pop" env (eval (.Name x p) env) = eval (.Name x p) env := by intro _; rfl) (hl : (apos.endLine == cpos.line) = true := by rfl) : EvM C A (.Call (.Attribute (.Name x p) "pop" apos) [e] [] cpos) E u Θ := by
  intro G0 H0 G H σ he Q k X pins s hX I
  obtain ⟨i, pv, hi⟩ := own_var (p := p) hX he hm hn hv hd hc
  obtain ⟨i', z, xs, hi', hσ, hH, hr, _, _⟩ := he.chg hp hm
  obtain ⟨j, nm, rfl, hO, hK⟩ := id hX
  obtain rfl : i = i' := nodup_ix hK.nd hi hi'
  refine (pe_bm PySem.F.plainAttrs_list PySem.F.slot_list_pop PySem.F.type_list_pop mt_popAt pv (pa_cons (pe_of hX e) pa_nil (hs X.env)) (hb X.env) (by rw [hs X.env]; rfl) hl (hs X.env) rfl).run pins s σ H Q I ⟨.ref z, hσ, .inl ⟨rfl, xs, .inl (.inl hH)⟩, ?_⟩
  refine h G0 H0 G H σ he _ fun di u' v G' H' ⟨n, d, e1, e2, e3, q⟩ g st r => ?_
  subst e1
  simp only [Rp] at r
  subst r
  obtain ⟨i2, z2, xs2, hi2, hσ2, hH2, hr2, ch, _⟩ := (he.go g st).chg hp hm
  obtain rfl : i = i2 := nodup_ix hK.nd hi hi2
  obtain rfl : z = z2 := by rw [hσ] at hσ2; cases hσ2; rfl
  obtain ⟨w, hw, rw_⟩ := hr2.getD e2
  have hlt : n < xs2.length := (List.getElem?_eq_some_iff.mp hw).1
  refine ⟨z, xs2, n, n, w, rfl, rfl, hH2, by omega, by omega, ?_, hw, ?_⟩
  · unfold seqIndex?
    have h1 : ¬ ((n : Int) < 0) := by omega
    have h2 : (0 : Int) ≤ n := by omega
    have h3 : (n : Int) < xs2.length := by omega
    simp [h1, h2, h3]
  · exact k d _ u' w G' _ q (ch _ _ (hr2.erase n)) rw_
/-- y = e, e changes own lists -/
theorem s_setM {y : Str} {kd : NameKind} (hn : Nm C.nm y kd) (hk : LocK kd) (h : EvM C A e E u fun d E' u' => ∃ F, Spl E' y F ∧ P.nx (F (.dat d)) u') (hy : ∃ s, At E y s) (hs : ∀ env, swapsWith e (some (.Name y p)) pos.line env = pure false := by intro _; rfl) :
    StK C A (.Assign [.Name y p] e pos) E u P := by
  intro G0 H0 G H σ Ds he S X pins s hX I
  obtain ⟨k, nm, rfl, hO, hK⟩ := id hX
  obtain ⟨sl, hat⟩ := hy
  obtain ⟨α, e1, _⟩ := he.ent
  obtain ⟨i, hi, _⟩ := e1 y _ hat.mem
  refine (ps_set (i := i) (pos' := p) hK.nd hi (hn.loc hO hk) (pe_of hX e) (hs X.env) (hn.fn hO hk)).run pins s σ H Ds I ?_
  refine h G0 H0 G H σ he _ fun d E' u' v G' H' ⟨F, hF, q⟩ he' r => ?_
  exact S.nx _ u' G' H' _ q (he'.put hF hi I.len hK.nd r)
theorem s_unpM {ts : List Expr} {j : Nat} {xs : List Str} (h : EvM C A e E u fun d E' u' => TgK C A (.Tuple ts j p) d E' u' xs fun E2 => P.nx E2 u') (hs : ∀ env, swapsWithSole [.Tuple ts j p] e pos.line env = pure false := by intro _; rfl)
    (hw : ∀ X, Has C X → swappedStores [.Tuple ts j p] e X.env = pure none := by intro _ _; rfl) : StK C A (.Assign [.Tuple ts j p] e pos) E u P := by
  refine StK.of _ (fun X hX => ps_asg (pe_of hX e) (pg_of hX (.Tuple ts j p)) (hs X.env) (hw X hX)) fun G0 H0 G H σ Ds he S => ?_
  refine h G0 H0 G H σ he _ fun d E' u' v G' H' h1 he' r => ?_
  exact h1 G0 H0 G' H' σ v he' r _ fun E2 σ' q he2 _ => S.nx E2 u' G' H' σ' q he2
/-- y.append(e), e changes own lists -/
theorem s_appM {y : Str} {F0 : Sl → NE} {l0 : List D} {kd : NameKind} (hp0 : Spl E y F0) (hm0 : At E y (.own l0)) (hn : Nm C.nm y kd) (hv : VisK kd) (h : EvM C A e E u fun d E' u' => ∃ F l, Spl E' y F ∧ At E' y (.own l) ∧ l.length < sizeLine ∧ P.nx (F (.own (l ++ [d]))) u')
    (hs : ∀ env, starEach [e] env = [(false, eval e env)] := by intro _; rfl) (hl : (apos.endLine == pos.line) = true := by rfl) (hd : (y == ("__debug__" : Str)) = false := by decide +kernel) (hc : (y == ("__classdict__" : Str)) = false := by decide +kernel)
    (hb : ∀ env, attributeBase (.Name y p) "append" env (eval (.Name y p) env) = eval (.Name y p) env := by intro _; rfl)
    (hw : ∀ env, swapsWith (.Call (.Attribute (.Name y p) "append" apos) [e] [] pos) none spos.line env = pure false := by intro _; rfl) :
    StK C A (.Expr (.Call (.Attribute (.Name y p) "append" apos) [e] [] pos) spos) E u P := by
  intro G0 H0 G H σ Ds he S X pins s hX I
  obtain ⟨i, pv, hi⟩ := own_var (p := p) hX he hm0 hn hv hd hc
  refine (ps_expr (pe_bm PySem.F.plainAttrs_list PySem.F.slot_list_append PySem.F.type_list_append mt_append pv (pa_cons (pe_of hX e) pa_nil (hs X.env)) (hb X.env) (by rw [hs X.env]; rfl) hl (hs X.env) rfl) (hw X.env)).run pins s σ H Ds I ?_
  obtain ⟨i', q, xs, hi', hσ, hH, hr, _, _⟩ := he.chg hp0 hm0
  obtain ⟨j, nm, rfl, hO, hK⟩ := id hX
  obtain rfl : i = i' := nodup_ix hK.nd hi hi'
  refine ⟨.ref q, hσ, .inl ⟨rfl, xs, .inl (.inl hH)⟩, ?_⟩
  refine h G0 H0 G H σ he _ fun d E' u' v G' H' ⟨F, l, hF, hA, hz, k⟩ he' r => ?_
  obtain ⟨i2, q2, xs2, hi2, hσ2, hH2, hr2, ch, _⟩ := he'.chg hF hA
  obtain rfl : i = i2 := nodup_ix hK.nd hi hi2
  obtain rfl : q = q2 := by rw [hσ] at hσ2; cases hσ2; rfl
  refine ⟨q, xs2, v, rfl, rfl, hH2, by rw [hr2.len]; exact hz, ?_⟩
  exact S.nx _ u' G' _ σ k (ch _ _ (hr2.append (RpA.one r)))
end
end L3
namespace L3
open PySem PySem.Spec PyProof.Rows L2
/-! ### list(range(..)), dicts made of pairs, read -/
theorem rpa_rg {K : PySem.W.Frag} {G : Hp} (a b : Int) : RpA K G (rgs a (b - a).toNat) (rgV a b) := by
  unfold rgs rgV
  generalize List.range (b - a).toNat = l
  induction l with
  | nil => exact RpA.nil_iff.mpr rfl
  | cons i l ih => exact RpA.cons (by simp only [Rp]) ih
section
variable {C : SC} {A : Amb} {E : NE} {u : A.U} {P : Post A} {pos p q1 q2 apos spos cpos : Pos} {e a b : Expr} {Φ : D → A.U → Prop} {Ψ : Bool → A.U → Prop} {Θ : List D → A.U → Prop}
theorem new_own {G0 : Beg} {H0 G H G1 H1 : Hp} {σ : L2.St} {u1 : A.U} {ds : List D} {xs : List V} {Q : VK} (he : Env C A G0 H0 u G H E σ) (g : Grow (A.foot u) (A.foot u1) G H G1 H1) (s : A.st u1 G1 H1) (r : RpA C.K G1 ds xs) (p : Θ ds u1)
    (q : ∀ ds u' p xs G' H', Θ ds u' → Grow (A.foot u) (A.foot u') G H G' H' → A.st u' G' H' → H p = none → G' p = none → ¬ A.foot u' p → H' p = some (.lst xs) → RpA C.K G' ds xs → Q (.ref p) H') : ∀ z, H1 z = none → Q (.ref z) (upd H1 z (.lst xs)) := fun z hz => by
  have g2 : Grow noFoot noFoot G1 H1 G1 (upd H1 z (.lst xs)) := Grow.own g.gh hz
  have hz0 : H z = none := by
    cases w : H z with
    | none => rfl
    | some o => exact absurd hz (g.th z (by rw [w]; simp))
  exact q ds u1 z xs _ _ p (g.trans g2.weak) (A.grow s g2) hz0 (g.gh.back hz) (fun f => A.there _ _ _ s z f hz) upd_same r
theorem n_listRg1 [hh : Cold C] (hn : Nm C.nm "range" .globalImplicit) (hm : C.mg "range" = none) (hn2 : Nm C.nm "list" .globalImplicit) (hm2 : C.mg "list" = none)
    (h : EvK C A a E u fun d u1 => ∃ n : Nat, d = .int (n : Int) ∧ n ≤ 16777216 ∧ Θ (rgs 0 n) u1)
    (hs : ∀ env, starEach [a] env = (false, eval a env) :: starEach [] env := by intro _; rfl) : EvN C A (.Call (.Name "list" p) [.Call (.Name "range" q1) [a] [] q2] [] pos) E u Θ := by
  intro G0 H0 G H σ he Q k X pins s hX I
  obtain ⟨j, nm, rfl, hO, hK⟩ := id hX
  refine (pe_listRg (hK.calm hh.h) (hn2.gl hO) hm2 (prg_1 (hn.gl hO) hm (pe_of hX a) (hs X.env))).run pins s σ H Q I ?_
  refine h G0 H0 G H σ he _ fun d u1 v G1 H1 ⟨n, e1, hl, p1⟩ g1 st1 r1 => ?_
  subst e1
  simp only [Rp] at r1
  refine ⟨n, r1, RgOk.of_le (by omega) (by omega) (by omega) (by omega), ?_⟩
  have e : ((n : Int) - 0).toNat = n := by omega
  have r := rpa_rg (K := (stat X j nm).K) (G := G1) 0 (n : Int)
  rw [e] at r
  exact new_own he g1 st1 r p1 k
theorem n_listRg2 [hh : Cold C] (hn : Nm C.nm "range" .globalImplicit) (hm : C.mg "range" = none) (hn2 : Nm C.nm "list" .globalImplicit) (hm2 : C.mg "list" = none)
    (h : EvK C A a E u fun d u1 => EvK C A b E u1 fun d2 u2 => ∃ m n : Int, d = .int m ∧ d2 = .int n ∧ 0 ≤ m ∧ m ≤ 16777216 ∧ 0 ≤ n ∧ n ≤ 16777216 ∧ Θ (rgs m (n - m).toNat) u2)
    (hs : ∀ env, starEach [a, b] env = (false, eval a env) :: starEach [b] env := by intro _; rfl) (hs2 : ∀ env, starEach [b] env = (false, eval b env) :: starEach [] env := by intro _; rfl) (hp : ∀ env, (backTo q2 (starEach [b] env)).any (·.1) = false := by intro _; rfl) :
    EvN C A (.Call (.Name "list" p) [.Call (.Name "range" q1) [a, b] [] q2] [] pos) E u Θ := by
  intro G0 H0 G H σ he Q k X pins s hX I
  obtain ⟨j, nm, rfl, hO, hK⟩ := id hX
  refine (pe_listRg (hK.calm hh.h) (hn2.gl hO) hm2 (prg_2 (hn.gl hO) hm (pe_of hX a) (pe_of hX b) (hs X.env) (hs2 X.env) (hp X.env))).run pins s σ H Q I ?_
  refine h G0 H0 G H σ he _ fun d u1 v G1 H1 p1 g1 st1 r1 => ?_
  refine p1 G0 H0 G1 H1 σ (he.go g1 st1) _ fun d2 u2 v2 G2 H2 ⟨m, n, e1, e2, l1, l2, l3, l4, p2⟩ g2 st2 r2 => ?_
  subst e1 e2
  simp only [Rp] at r1 r2
  refine ⟨m, n, r1, r2, RgOk.of_le l1 l4 l2 l3, ?_⟩
  exact new_own he (g1.trans g2) st2 (rpa_rg m n) p2 k
end
/-! ### dicts as data -/
def kD : Key → D
  | .inl i => .int i
  | .inr s => .str s
def valD (kds : List (Key × D)) (k : Key) : Option D := (kds.find? fun kv => decide (kv.1 = k)).map (·.2)
theorem kD_rp {K : PySem.W.Frag} {G : Hp} (k : Key) {v : V} : Rp K G (kD k) v ↔ v = kV k := by
  cases k <;> simp only [kD, Rp, kV]
theorem RpK.val {K : PySem.W.Frag} {G : Hp} {k : Key} : ∀ {kds : List (Key × D)} {kvs : List (Key × V)}, RpK K G kds kvs → ∀ {d : D}, valD kds k = some d → ∃ v, valV kvs k = some v ∧ Rp K G d v
  | [], kvs, h, d, e => by cases e
  | (k', d') :: kds, kvs, h, d, e => by
    simp only [RpK] at h
    obtain ⟨x, r, rfl, h1, h2⟩ := h
    unfold valD at e
    unfold valV
    rw [List.find?_cons] at e ⊢
    dsimp only at e ⊢
    by_cases z : k' = k
    · rw [decide_eq_true z] at e ⊢
      cases e
      exact ⟨x, rfl, h1⟩
    · rw [decide_eq_false z] at e ⊢
      exact RpK.val h2 e
theorem RpK.none {K : PySem.W.Frag} {G : Hp} {k : Key} : ∀ {kds : List (Key × D)} {kvs : List (Key × V)}, RpK K G kds kvs → valD kds k = none → valV kvs k = none
  | [], kvs, h, e => by simp only [RpK] at h; subst h; rfl
  | (k', d') :: kds, kvs, h, e => by
    simp only [RpK] at h
    obtain ⟨x, r, rfl, h1, h2⟩ := h
    unfold valD at e
    unfold valV
    rw [List.find?_cons] at e ⊢
    dsimp only at e ⊢
    by_cases z : k' = k
    · rw [decide_eq_true z] at e; cases e
    · rw [decide_eq_false z] at e ⊢
      exact RpK.none h2 e
theorem merge_nd : ∀ (kvs acc : List (Key × V)), ((acc ++ kvs).map (·.1)).Nodup → mergeK acc kvs = acc ++ kvs
  | [], acc, _ => by simp [mergeK]
  | kv :: kvs, acc, h => by
    have h0 : putK acc kv.1 kv.2 = acc ++ [kv] := by
      unfold putK
      rw [if_neg]
      intro z
      obtain ⟨w, hw, e⟩ := List.any_eq_true.mp z
      have e := of_decide_eq_true e
      rw [List.map_append, List.map_cons, List.nodup_append] at h
      exact h.2.2 w.1 (List.mem_map_of_mem hw) kv.1 List.mem_cons_self e
    show (kvs.foldl (fun acc kv => putK acc kv.1 kv.2) (putK acc kv.1 kv.2)) = _
    rw [h0]
    have := merge_nd kvs (acc ++ [kv]) (by rw [List.append_assoc]; exact h)
    unfold mergeK at this
    rw [this, List.append_assoc]; rfl
def dictW : List D → (D → Prop) → Prop := fun ds Ψ => ∃ kds : List (Key × D), ds = [.lst (kds.map fun p => .tup [kD p.1, p.2])] ∧ (kds.map (·.1)).Nodup ∧ Ψ (.dct kds)
theorem pairs_rp {K : PySem.W.Frag} {G H : Hp} (kn : Kn G H) : ∀ {kds : List (Key × D)} {xs : List V}, RpA K G (kds.map fun p => .tup [kD p.1, p.2]) xs → ∃ (ps : List Addr) (kvs : List (Key × V)), xs = ps.map V.ref ∧ Paired (fun p kv => SqT K H p [kV kv.1, kv.2]) ps kvs ∧ RpK K G kds kvs ∧ kvs.map (·.1) = kds.map (·.1)
  | [], xs, h => by rw [List.map_nil, RpA.nil_iff] at h; subst h; exact ⟨[], [], rfl, .nil, by simp only [RpK], rfl⟩
  | (k, d) :: kds, xs, h => by
    rw [List.map_cons, RpA.cons_iff] at h
    obtain ⟨x, r, rfl, h1, h2⟩ := h
    simp only [Rp] at h1
    obtain ⟨q, ys, rfl, hq, hr⟩ := h1
    rw [RpA.cons_iff] at hr
    obtain ⟨y1, r1, rfl, hy1, hr⟩ := hr
    obtain ⟨y2, rfl, hy2⟩ := rpa1 hr
    rw [kD_rp] at hy1
    subst hy1
    obtain ⟨ps, kvs, rfl, i1, i2, i3⟩ := pairs_rp kn h2
    exact ⟨q :: ps, (k, y2) :: kvs, rfl, .cons (kn.sqT hq) i1, by simp only [RpK]; exact ⟨y2, kvs, rfl, hy2, i2⟩, by rw [List.map_cons, List.map_cons, i3]⟩
section
variable {C : SC} {A : Amb} {E : NE} {u : A.U} {P : Post A} {pos p q1 q2 apos spos cpos : Pos} {e a b : Expr} {Φ : D → A.U → Prop} {Ψ : Bool → A.U → Prop} {Θ : List D → A.U → Prop}
theorem dict_ok [hh : Cold C] : CallS C (.type "dict") dictW := by
  rintro X ⟨k, nm, rfl, hO, hK⟩ pins s σ H xs us Q I r ⟨G, ds, Ψ, kn, ra, ⟨kds, e, nd, hΨ⟩, q⟩
  subst e
  obtain ⟨x, rfl, rx⟩ := rpa1 ra
  simp only [Rp] at rx
  obtain ⟨z, ys, rfl, hz, hy⟩ := rx
  obtain ⟨ps, kvs, rfl, h1, h2, h3⟩ := pairs_rp kn hy
  refine call_dictP (hK.calm hh.h) pins s σ H _ us Q I r ⟨z, ps, kvs, rfl, SqL.of (kn _ _ hz), h1, fun p hp => ?_⟩
  rw [merge_nd kvs [] (by rw [List.nil_append, h3]; exact nd), List.nil_append]
  have g2 : Grow noFoot noFoot G H (upd G p (.dK kvs)) (upd H p (.dK kvs)) := Grow.new kn hp
  exact q (.dct kds) (.ref p) _ _ hΨ g2 (by simp only [Rp]; exact ⟨p, kvs, rfl, upd_same, h2.mono g2.gg⟩)
/-- x[e], x a dict -/
theorem k_dgetN {x : Str} {l : List (Key × D)} {kd : NameKind} (hE : At E x (.dat (.dct l))) (hn : Nm C.nm x kd) (hv : VisK kd) (h : EvK C A b E u fun db u2 => ∃ (k : Key) (d : D), db = kD k ∧ valD l k = some d ∧ Φ d u2)
    (hx : NoSl b := by exact fun _ _ => rfl) (hd : (x == ("__debug__" : Str)) = false := by decide +kernel) (hc : (x == ("__classdict__" : Str)) = false := by decide +kernel) : EvK C A (.Subscript (.Name x p) b pos) E u Φ := by
  intro G0 H0 G H σ he Q k X pins s hX I
  obtain ⟨j, nm, rfl, hO, hK⟩ := id hX
  obtain ⟨i, v, h1, h2, h3⟩ := he.dat hE.mem
  have hu := Has.hu hK
  refine (pe_dget (by omega) (pe_var (i := i) h1 (hn.vis hO hv) hd hc) (pe_of hX b) hx).run pins s σ H Q I ⟨v, h2, ?_⟩
  simp only [Rp] at h3
  obtain ⟨z, kvs, rfl, hz, hr⟩ := h3
  refine h G0 H0 G H σ he _ fun db u2 v2 G1 H1 ⟨kk, d, e1, e2, q⟩ g st r => ?_
  subst e1
  rw [kD_rp] at r
  subst r
  obtain ⟨w, hw, rw_⟩ := (hr.mono g.gg).val e2
  refine ⟨z, w, rfl, ?_, k d u2 w G1 H1 q g st rw_⟩
  have := DGet.k (k := kk) (g.gh _ _ (g.gg _ _ hz))
  rw [hw] at this
  exact this
end
end L3
namespace L3
open PySem PySem.Spec PyProof.Rows L2
section
variable {C : SC} {A : Amb} {E : NE} {u : A.U} {P : Post A} {pos p p2 q1 q2 apos spos cpos : Pos} {e a b c : Expr} {Φ : D → A.U → Prop} {Ψ : Bool → A.U → Prop} {Θ : List D → A.U → Prop}
/-- x[a] = e, x an own list -/
theorem s_setI {x : Str} {F : Sl → NE} {l : List D} {kd : NameKind} (hp : Spl E x F) (hm : At E x (.own l)) (hn : Nm C.nm x kd) (hv : VisK kd)
    (h : EvK C A e E u fun d u1 => EvK C A a E u1 fun di u2 => ∃ j : Nat, di = .int (j : Int) ∧ j < l.length ∧ P.nx (F (.own (l.set j d))) u2)
    (hd : (x == ("__debug__" : Str)) = false := by decide +kernel) (hc : (x == ("__classdict__" : Str)) = false := by decide +kernel)
    (ha : ∀ env v, assign (.Subscript (.Name x p) a p2) env v = (do let ov ← holding [v] (eval (.Name x p) env); let iv ← holding [v, ov] (eval a env); standAt p2; holding [v, ov, iv] (setItem ov iv v); release [v, ov, iv] []) := by intro _ _; rfl)
    (hs : ∀ env, swapsWithSole [.Subscript (.Name x p) a p2] e pos.line env = pure false := by intro _; rfl) (hw : ∀ X, Has C X → swappedStores [.Subscript (.Name x p) a p2] e X.env = pure none := by intro _ _; rfl) :
    StK C A (.Assign [.Subscript (.Name x p) a p2] e pos) E u P := by
  intro G0 H0 G H σ Ds he S X pins s hX I
  obtain ⟨i, pv, hi⟩ := own_var (p := p) hX he hm hn hv hd hc
  refine (ps_asg (pe_of hX e) (pg_sub pv (pe_of hX a) set_list (ha X.env)) (hs X.env) (hw X hX)).run pins s σ H Ds I ?_
  obtain ⟨i', q, xs, hi', hσ, hH, hr, _, _⟩ := he.chg hp hm
  obtain ⟨jj, nm, rfl, hO, hK⟩ := id hX
  obtain rfl : i = i' := nodup_ix hK.nd hi hi'
  refine h G0 H0 G H σ he _ fun d u1 v1 G1 H1 k1 g1 st1 r1 => ?_
  have he1 := he.go g1 st1
  refine ⟨.ref q, hσ, ?_⟩
  refine k1 G0 H0 G1 H1 σ he1 _ fun di u2 v2 G2 H2 ⟨j, e3, hj, k2⟩ g2 st2 r2 => ?_
  subst e3
  simp only [Rp] at r2
  subst r2
  have he2 := he1.go g2 st2
  obtain ⟨i3, q3, xs2, hi3, hσ2, hH2, hr2, ch, _⟩ := he2.chg hp hm
  obtain rfl : i = i3 := nodup_ix hK.nd hi hi3
  obtain rfl : q = q3 := by rw [hσ] at hσ2; cases hσ2; rfl
  have hj2 : j < xs2.length := by rw [hr2.len]; exact hj
  refine ⟨q, xs2, (j : Int), j, rfl, rfl, hH2, ?_, S.nx _ u2 G2 _ σ k2 (ch _ _ (RpA.set (r1.mono g2.gg) j hr2))⟩
  unfold ixN
  rw [if_pos (by omega), if_pos (by omega), Int.toNat_natCast]
/-- list(e), a new list -/
theorem n_list {x : Str} (hn : Nm C.nm "list" .globalImplicit) (hm : C.mg "list" = none) (h : EvK C A e E u fun d u' => ∃ l, (d = .lst l ∨ d = .tup l) ∧ Θ l u')
    (he : ∀ env, starEach [e] env = (false, eval e env) :: starEach [] env := by intro _; rfl) (hpl : ∀ env, (backTo pos (starEach [] env)).any (·.1) = false := by intro _; rfl) : EvN C A (.Call (.Name "list" p) [e] [] pos) E u Θ := by
  intro G0 H0 G H σ hE Q k X pins s hX I
  obtain ⟨j, nm, rfl, hO, hK⟩ := id hX
  refine (pe_callTy call_list_of (hn.gl hO) hm bb_list (pa_cons (pe_of hX e) pa_nil (he X.env)) (by decide +kernel) (by decide +kernel) (he X.env) (hpl X.env)).run pins s σ H Q I ?_
  refine h G0 H0 G H σ hE _ fun d u1 v G1 H1 ⟨l, hd, p1⟩ g1 st1 r1 => ?_
  obtain ⟨z, xs, rfl, hz, hr⟩ : ∃ z xs, v = .ref z ∧ (SqL (stat X j nm).K H1 z xs ∨ SqT (stat X j nm).K H1 z xs) ∧ RpA (stat X j nm).K G1 l xs := by
    rcases hd with rfl | rfl
    · simp only [Rp] at r1
      obtain ⟨z, xs, rfl, h1, h2⟩ := r1
      exact ⟨z, xs, rfl, .inl (SqL.of (g1.gh _ _ h1)), h2⟩
    · simp only [Rp] at r1
      obtain ⟨z, xs, rfl, h1, h2⟩ := r1
      exact ⟨z, xs, rfl, .inr (Kn.sqT g1.gh h1), h2⟩
  exact ⟨z, xs, rfl, hz, new_own hE g1 st1 hr p1 k⟩
theorem s_unp2 {x y : Str} {px py : Pos} {j : Nat} (h : EvK C A e E u fun d u' => TgK C A (.Tuple [.Name x px, .Name y py] j p) d E u' ([x] ++ ([y] ++ [])) fun E' => P.nx E' u')
    (hs : ∀ env, swapsWithSole [.Tuple [.Name x px, .Name y py] j p] e pos.line env = pure false := by intro _; rfl) (hw : ∀ X, Has C X → swappedStores [.Tuple [.Name x px, .Name y py] j p] e X.env = pure none := by intro _ _; rfl) : StK C A (.Assign [.Tuple [.Name x px, .Name y py] j p] e pos) E u P := s_unp h hs hw
theorem s_unp3 {x y z : Str} {px py pz : Pos} {j : Nat} (h : EvK C A e E u fun d u' => TgK C A (.Tuple [.Name x px, .Name y py, .Name z pz] j p) d E u' ([x] ++ ([y] ++ ([z] ++ []))) fun E' => P.nx E' u')
    (hs : ∀ env, swapsWithSole [.Tuple [.Name x px, .Name y py, .Name z pz] j p] e pos.line env = pure false := by intro _; rfl) (hw : ∀ X, Has C X → swappedStores [.Tuple [.Name x px, .Name y py, .Name z pz] j p] e X.env = pure none := by intro _ _; rfl) : StK C A (.Assign [.Tuple [.Name x px, .Name y py, .Name z pz] j p] e pos) E u P := s_unp h hs hw
theorem tg_three [hh : Cold C] {j : Nat} {d1 d2 d3 : D} {xs ys zs : List Str} {Ω : NE → Prop} (h : TgK C A a d1 E u xs fun E1 => TgK C A b d2 E1 u ys fun E2 => TgK C A c d3 E2 u zs Ω)
    (hc : ∀ X, Has C X → ∀ (g : TG) (gs : TGs), PG X a g → PGs X [b, c] gs → PGs X [a, b, c] (gCons g gs) := by intro _ _ _ _ h1 h2; exact pgs_cons h1 h2) (hc2 : ∀ X, Has C X → ∀ (g : TG) (gs : TGs), PG X b g → PGs X [c] gs → PGs X [b, c] (gCons g gs) := by intro _ _ _ _ h1 h2; exact pgs_cons h1 h2)
    (hc3 : ∀ X, Has C X → ∀ (g : TG) (gs : TGs), PG X c g → PGs X [] gs → PGs X [c] (gCons g gs) := by intro _ _ _ _ h1 h2; exact pgs_cons h1 h2)
    (hn : ∀ env, (assignEach [a, b, c] env).length = 3 := by intro _; rfl) (hst : ∀ env, (assignEach [a, b, c] env).findIdx? (·.1) = none := by intro _; rfl) : TgK C A (.Tuple [a, b, c] j pos) (.tup [d1, d2, d3]) E u (xs ++ (ys ++ (zs ++ []))) Ω := by
  refine tg_tup (tgs_cons ?_ hc) rfl hn hst
  intro G0 H0 G H σ v he r Q k
  refine h G0 H0 G H σ v he r Q fun E1 σ1 q1 he1 o1 => k E1 σ1 ?_ he1 o1
  refine tgs_cons ?_ hc2
  intro G0 H0 G H σ v he r Q k
  refine q1 G0 H0 G H σ v he r Q fun E2 σ2 q2 he2 o2 => k E2 σ2 ?_ he2 o2
  refine tgs_cons ?_ hc3
  intro G0 H0 G H σ v he r Q k
  exact q2 G0 H0 G H σ v he r Q fun E3 σ3 q3 he3 o3 => k E3 σ3 (tgs_nil q3) he3 o3
theorem s_unpM2 {x y : Str} {px py : Pos} {j : Nat} (h : EvM C A e E u fun d E' u' => TgK C A (.Tuple [.Name x px, .Name y py] j p) d E' u' ([x] ++ ([y] ++ [])) fun E2 => P.nx E2 u') (hs : ∀ env, swapsWithSole [.Tuple [.Name x px, .Name y py] j p] e pos.line env = pure false := by intro _; rfl)
    (hw : ∀ X, Has C X → swappedStores [.Tuple [.Name x px, .Name y py] j p] e X.env = pure none := by intro _ _; rfl) : StK C A (.Assign [.Tuple [.Name x px, .Name y py] j p] e pos) E u P := s_unpM h hs hw
theorem bb_dict : bootBuiltins "dict" = some (.type "dict") := by decide +kernel
end
end L3
namespace L3
open PySem PySem.Spec PyProof.Rows L2
end L3
namespace ZZ
open PySem
open PySem.Sem (wp)
/-! ### enumerate over a list or a tuple -/
/-- the object that iter makes of v -/
theorem meets_en {v : Value} {ob : Obj} {Z : Heap → Prop} (bg : Begins v ob Z) : Meets (Builtin.«enumerate.__new__» ⟨[.type "enumerate", v], []⟩) (fun _ Rr sh => Z sh.heap ∧
      Rr (.ok (.ret (.ref (sh.heap.push ob).objs.size))) { sh with heap := (sh.heap.push ob).push { cls := .type "enumerate", data := .fields #[.none, .bool false, .ref sh.heap.objs.size, rawInt 0, .none, .none] } }) := by
  refine .of_wp fun pr ww Aa Rr sh hz => ?_
  obtain ⟨hp, gg, dr, tk, osx⟩ := sh
  obtain ⟨z1, z2⟩ := hz
  have hsub := sub_enumerate
  have it1 : ∀ {Ab : Around} {Ee : Value → Shared → Prop} {Qq : Value → Shared → Prop}, Qq (.ref hp.objs.size) ⟨hp.push ob, gg, dr, tk, osx⟩ → wpAny (model pr ww) Ab (pyIter v) Qq Ee ⟨hp, gg, dr, tk, osx⟩ :=
    fun y => bg.iter pr ww _ _ ⟨hp, gg, dr, tk, osx⟩ _ z1 y
  wp_walk using it1
  refine wpAny_stack_any fun stk => (wpAny_pure ?_)
  split
  · rename_i cc _ _ _ _ _
    cases (cc == Value.type "enumerate")
    · wp_walk using it1
      exact ⟨_, rfl, z2⟩
    · wp_walk using it1
      exact ⟨_, rfl, z2⟩
  · wp_walk using it1
    exact ⟨_, rfl, z2⟩
section
variable {prog : Program} {w : World} {A : Around} {E : Value → Shared → Prop} {s : Shared}
theorem begins_sq (b : Bool) (l : Addr) (xs : Array Value) : Begins (.ref l) (itObj b l) fun h => Sq b h l xs := by
  cases b
  · exact begins_list l xs
  · exact begins_tuple l xs
theorem call_en {b : Bool} {l : Addr} {xs : Array Value} {Q : Value → Shared → Prop} (q : Sq b s.heap l xs)
    (k : ∀ g, IsEnum g (s.heap.objs.size + 1) s.heap.objs.size 0 .none → Cu b g s.heap.objs.size l 0 → (∀ c, Kp s.heap g c) → Q (.ref (s.heap.objs.size + 1)) { s with heap := g }) :
    wpAny (model prog w) A (call (.type "enumerate") [.ref l]) Q E s := by
  have bg := begins_sq b l xs
  have size1 : (s.heap.push (itObj b l)).objs.size = s.heap.objs.size + 1 := Heap.size_push ..
  refine callType_new F.called_enumerate (by decide) (F.typeCall_enumerate_1 _) (F.newCall_enumerate_1 _) (fun ob => F.args_object_init_2 ob _) F.entry_enumerate_new (meets_en bg) ⟨q, ?_⟩
  have fresh1 := Heap.get?_push_size (s.heap.push (itObj b l)) (o := { cls := .type "enumerate", data := .fields #[.none, .bool false, .ref s.heap.objs.size, rawInt 0, .none, .none] }) rfl
  rw [size1] at fresh1
  show _ ∧ _
  rw [size1]
  have en : IsEnum ((s.heap.push (itObj b l)).push { cls := .type "enumerate", data := .fields #[.none, .bool false, .ref s.heap.objs.size, rawInt 0, .none, .none] }) (s.heap.objs.size + 1) s.heap.objs.size 0 .none := fresh1
  refine ⟨⟨_, en, rfl⟩, k _ en ?_ fun c o e => Heap.get?_push_of_some _ (Heap.get?_push_of_some _ e)⟩
  have it0 : ((s.heap.push (itObj b l)).push { cls := .type "enumerate", data := .fields #[.none, .bool false, .ref s.heap.objs.size, rawInt 0, .none, .none] }).get? s.heap.objs.size = some (itObj b l) :=
    Heap.get?_push_of_some _ (Heap.get?_push_size _ (by cases b <;> rfl))
  cases b <;> exact ⟨_, it0, rfl, rfl⟩
theorem draws_sq {b : Bool} (hh : A.handled = none) (it l : Addr) (hne : l ≠ it) (xs : Array Value) : Draws prog w A it [it, l] xs.size (fun i v => xs[i]? = some v) (fun i h => Cu b h it l i ∧ Sq b h l xs) := by
  cases b
  · exact Draws.list hh it l hne xs
  · exact Draws.tuple hh it l hne xs
theorem draws_stop {b : Bool} {i : Nat} (hh : A.handled = none) (it l : Addr) (xs : Array Value) (le : xs.size ≤ i) : Draws prog w A it [it, l] i (fun _ _ => True) (fun j h => j = i ∧ Cu b h it l i ∧ Sq b h l xs) where
  live := fun _ _ st => by obtain ⟨o, e, _⟩ := st.2.1.obj; exact ⟨o, e⟩
  frame := fun _ _ _ st hk => ⟨st.1, st.2.1.to fun o e => hk it (by simp) o e, st.2.2.to fun o e => hk l (by simp) o e⟩
  item := fun j _ _ _ lt st _ => absurd st.1 (Nat.ne_of_lt lt)
  done := fun s Q E st k => cu_end hh st.2.1 st.2.2 (by simpa using le) k
end
end ZZ
namespace L3
open PySem PySem.Spec PyProof.Rows L2
def ItE (K : PySem.W.Frag) (kb : Bool) (a : Addr) : It where
  go i H := ∃ (xs : List V) (x : V), SqX kb K H a xs ∧ xs[i]? = some x
  yld i H v H' := ∃ T x, v = .ref T ∧ H T = none ∧ H' = upd H T (.tup [.int (i : Nat), x]) ∧ ∀ xs, SqX kb K H a xs → xs[i]? = some x
  stop i H := ∃ xs : List V, SqX kb K H a xs ∧ xs.length ≤ i
theorem turn_en {P : Program} {w : World} {K : PySem.W.Frag} {elts : List Expr} {kk : Nat} {tpos : Pos} {kb : Bool} {a e it : Addr} (n1 : e ≠ it) (n2 : a ≠ e) (n3 : a ≠ it) :
    Turn P w K (.Tuple elts kk tpos) (ItE K kb a) [e, it] e (fun i h => (∃ old, IsEnum h e it ((i : Nat) : Int) old) ∧ ZZ.Cu kb h it a i) where
  mem := List.mem_cons_self
  obj i h st c hc := by
    obtain ⟨⟨old, he⟩, cu⟩ := st
    simp only [List.mem_cons, List.not_mem_nil, or_false] at hc
    rcases hc with rfl | rfl
    · exact ⟨_, he, nofun⟩
    · exact cu.obj
  keep i h h' st k := by
    obtain ⟨⟨old, he⟩, cu⟩ := st
    exact ⟨⟨old, k e (by simp) _ he⟩, cu.to fun o q => k it (by simp) o q⟩
  item := by
    rintro X rfl rfl rfl hc i pins s σ H E I hf ⟨⟨old, he⟩, cu⟩ ⟨xs, x, qa, hx⟩
    obtain ⟨us, r1, p1⟩ := qa.seq I
    obtain ⟨ux, eu, ru⟩ := r1.get hx
    have el : e < s.heap.objs.size := Heap.lt_size he
    have il : it < s.heap.objs.size := by obtain ⟨_, q, _⟩ := cu.obj; exact Heap.lt_size q
    have hh : X.A.in1.handled = none := I.ok.hd hc
    have lt : i < us.toArray.size := by have := (List.getElem?_eq_some_iff.mp eu).1; simpa using this
    refine wpAny_pyNext_enum_itemD (ZZ.draws_sq (b := kb) hh it a n3 us.toArray) he ⟨cu, p1⟩ lt n1 (by simp [n1, Ne.symm n2]) fun y g tk hy eo st2 hT hsz hk => ?_
    obtain rfl : y = ux := by
      have : us.toArray[i]? = some ux := by simpa using eu
      rw [this] at hy
      exact (Option.some.inj hy).symm
    refine ⟨_, rfl, wpAny_letOwnedTupleGo_enum (s := { s with heap := g, toks := tk + 1 }) eo fun g2 he2 sb => ?_⟩
    have gT : g2.get? s.heap.objs.size = some { cls := .type "tuple", data := .seq #[.int i tk, y] } := (sb.2 _ (Nat.ne_of_gt el)).trans hT
    have newT : ObjOk X.prog X.w (upd H s.heap.objs.size (.tup [.int (i : Nat), x])) g2 s.heap.objs.size (.tup [.int (i : Nat), x]) :=
      ⟨show 2 ≤ sizeLine by decide, [.int i tk, y], .cons ⟨_, rfl⟩ (.cons ru .nil), _, gT, rfl, _, rfl⟩
    have out : ∀ c, c ∉ [e, it] → c ≠ e ∧ c ≠ it := fun c n => by
      simp only [List.mem_cons, List.not_mem_nil, or_false, not_or] at n
      exact n
    have I1 : Inv X pins σ (upd H s.heap.objs.size (.tup [.int (i : Nat), x])) { s with heap := g2, toks := tk + 1 } :=
      I.turnedNew (t' := tk + 1) (ch := [e, it]) (fun c o n q => (sb.2 c (out c n).1).trans (hk c o (out c n).1 (out c n).2 q)) hf (Nat.le_refl _) newT
    refine ⟨.ref s.heap.objs.size, _, I1, rfl, ⟨_, x, rfl, I.hok.fresh (Nat.le_refl _), rfl, fun l hl => by rw [hl.inj I qa]; exact hx⟩, ⟨⟨y, ?_⟩, st2.1.to fun o q => (sb.2 it (Ne.symm n1)).trans q⟩, fun c hcm => ?_⟩
    · rw [show ((i + 1 : Nat) : Int) = (i : Int) + 1 by omega]; exact he2
    · have lt2 : c < s.heap.objs.size := by
        simp only [List.mem_cons, List.not_mem_nil, or_false] at hcm
        rcases hcm with rfl | rfl
        · exact el
        · exact il
      rw [upd_ne (Nat.ne_of_lt lt2)]
      exact (hf c hcm).1
  done := by
    rintro X rfl rfl rfl hc i pins s σ H E I hf ⟨⟨old, he⟩, cu⟩ ⟨xs, qa, hend⟩
    obtain ⟨us, r1, p1⟩ := qa.seq I
    have l1 := r1.length
    have hh : X.A.in1.handled = none := I.ok.hd hc
    exact wpAny_pyNext_enum_endD (ZZ.draws_stop (b := kb) hh it a us.toArray (i := i) (by simp; omega)) he ⟨rfl, cu, p1⟩ fun g eb => ⟨rfl, I.turnedL (t' := s.toks) (ch := [e, it]) (fun c o n q => eb c o (fun w => n (by simp [w])) q) hf⟩
  self A i s Q E st h := let ⟨⟨_, he⟩, _⟩ := st; wpAny_pyIter_enum he h
/-- the pairs of a number and an item -/
def enD (l : List D) : List D := List.zipWith (fun x y => .tup [x, y]) (rgs 0 l.length) l
theorem enD_len (l : List D) : (enD l).length = l.length := by unfold enD; rw [List.length_zipWith]; simp [rgs]
theorem enD_at {l : List D} {i : Nat} {d : D} (h : l[i]? = some d) : (enD l)[i]? = some (.tup [.int (i : Nat), d]) := by
  have hi := (List.getElem?_eq_some_iff.mp h).1
  unfold enD
  rw [List.getElem?_zipWith, h]
  unfold rgs
  rw [List.getElem?_map, List.getElem?_range hi]
  simp
theorem y_enum {K : PySem.W.Frag} {G : Hp} {kb : Bool} {a : Addr} {l : List D} {xs : List V} (h1 : ∀ G' H', Kn G G' → Kn G' H' → SqX kb K H' a xs) (r1 : RpA K G l xs) : Yields K G (ItE K kb a) (enD l) := by
  have hl := enD_len l
  have e1 := r1.len
  refine ⟨fun i G' H' k1 k2 hi => ?_, fun i G' H' x H2 k1 k2 hi y => ?_, fun i G' H' k1 k2 hi => ⟨xs, h1 _ _ k1 k2, by omega⟩⟩
  · have i1 : i < xs.length := by omega
    exact ⟨xs, xs[i], h1 _ _ k1 k2, List.getElem?_eq_getElem i1⟩
  · obtain ⟨T, u, rfl, hT, rfl, q1⟩ := y
    have f1 := q1 xs (h1 _ _ k1 k2)
    have i1 : i < l.length := by omega
    have g : Grow noFoot noFoot G' H' (upd G' T (.tup [.int (i : Nat), u])) (upd H' T (.tup [.int (i : Nat), u])) := Grow.new k2 hT
    have R1 : RpA K (upd G' T (.tup [.int (i : Nat), u])) l xs := (r1.mono k1).mono g.gg
    refine ⟨.tup [.int (i : Nat), l[i]], _, enD_at (List.getElem?_eq_getElem i1), g, ?_⟩
    simp only [Rp]
    obtain ⟨u', eu, ru⟩ := R1.getD (List.getElem?_eq_getElem i1)
    obtain rfl : u' = u := Option.some.inj (eu.symm.trans f1)
    exact ⟨T, [.int (i : Nat), u'], rfl, .inl (.inl upd_same), RpA.cons_iff.mpr ⟨_, _, rfl, by simp only [Rp], RpA.one ru⟩⟩
section
variable {C : SC} {A : Amb} {E : NE} {u : A.U} {pos p q : Pos} {a b : Expr}
theorem i_enum {Θ : List D → A.U → Prop} {elts : List Expr} {kk : Nat} {tpos : Pos} (hn : Nm C.nm "enumerate" .globalImplicit) (hm : C.mg "enumerate" = none)
    (h : EvA C A [a] E u fun ds u' => ∃ da k1 l, ds = [da] ∧ seqOf da = some (k1, l) ∧ Θ (enD l) u')
    (hs : ∀ env, starEach [a] env = (false, eval a env) :: starEach [] env := by intro _; rfl) (hpl : ∀ env, (backTo pos (starEach [] env)).any (·.1) = false := by intro _; rfl) : EvI C A (.Tuple elts kk tpos) (.Call (.Name "enumerate" q) [a] [] pos) E u Θ := by
  intro G0 H0 G H σ he R k X pins s hX I
  obtain ⟨j, nm, rfl, hO, hK⟩ := id hX
  refine Call_ (ld_blt I (hn.gl hO) hm PyProof.Rows.boot_enumerate (PyProof.Rows.callWith_type1 (thn ((pa_of hX [a]).run pos pins s σ H (fun vs H1 => ∃ ds u' G1, (∃ da k1 l, ds = [da] ∧ seqOf da = some (k1, l) ∧ Θ (enD l) u') ∧ Grow (A.foot u) (A.foot u') G H G1 H1 ∧ A.st u' G1 H1 ∧ RpA X.K G1 ds vs) I
    (h G0 H0 G H σ he _ fun ds u' vs G1 H1 p g st r => ⟨ds, u', G1, p, g, st, r⟩)) fun us s1 ⟨vs, H1, I1, r1, ds, u', G1, p, g, st, r⟩ => ?_) (hs X.env) (hpl X.env)))
  obtain ⟨da, k1, l, rfl, e1, th⟩ := p
  obtain ⟨va, rfl, ra⟩ := rpa1 r
  obtain ⟨x, xs, rfl, sx, rx⟩ := seq_at e1 ra
  cases r1 with
  | cons z1 z2 =>
    cases z2
    cases z1
    obtain ⟨its, rv, p1⟩ := (sx G1 H1 (Kn.refl _) g.gh).seq I1
    have lx := p1.lt
    refine ZZ.call_en p1 fun g2 he2 c1 kp => wpAny_pyIter_enum he2 ?_
    refine ⟨s1.heap.objs.size + 1, [s1.heap.objs.size + 1, s1.heap.objs.size], _, _, H1, rfl, I1.kept (t' := s1.toks) (fun c o e => kp c o e), turn_en (Nat.succ_ne_self _) (Nat.ne_of_lt (Nat.lt_succ_of_lt lx)) (Nat.ne_of_lt lx), ⟨⟨_, he2⟩, c1⟩, fun c hcm => ?_, k _ u' _ G1 H1 th g st (y_enum sx rx)⟩
    have le : s1.heap.objs.size ≤ c := by
      simp only [List.mem_cons, List.not_mem_nil, or_false] at hcm
      rcases hcm with rfl | rfl
      · exact Nat.le_add_right _ _
      · exact Nat.le_refl _
    exact I1.fpOk le (I1.hok.fresh le)
end
end L3
namespace L3
open PySem PySem.Spec PyProof.Rows L2
/-! ### dicts of one's own -/
section
variable {C : SC} {A : Amb} {E : NE} {u : A.U} {pos p apos spos cpos p2 : Pos} {e a b : Expr} {P : Post A} {Φ : D → A.U → Prop} {Ψ : Bool → A.U → Prop}
theorem Env.chgD {G0 : Beg} {H0 G H : Hp} {σ : L2.St} {x : Str} {F : Sl → NE} {l : List (Key × D)} (he : Env C A G0 H0 u G H E σ) (hp : Spl E x F) (hm : At E x (.ownD l)) :
    ∃ (i : Nat) (q : Addr) (xs : List (Key × V)), C.N[i]? = some x ∧ σ[i]? = some (some (.ref q)) ∧ H q = some (.dK xs) ∧ RpK C.K G l xs ∧ (∀ l' xs', RpK C.K G l' xs' → Env C A G0 H0 u G (upd H q (.dK xs')) (F (.ownD l')) σ) ∧
      Env C A G0 H0 u (upd G q (.dK xs)) H (F (.dat (.dct l))) σ := by
  obtain ⟨α, e1, e2⟩ := he.ent
  obtain ⟨i, hi, hs, hG, h0, hf, xs, hH, hr⟩ := e1 x _ hm.mem
  have kn := Kn.new (G := G) (p := α x) (o := .dK xs) hG
  have names : ∀ s, (F s).map (·.1) = E.map (·.1) := fun s => (hp.spec s).1
  have nd : ∀ s, ((F s).map (·.1)).Nodup := fun s => by rw [names]; exact he.nd
  have mem : ∀ s, (x, s) ∈ F s := fun s => (hp.spec s).2.1
  have same : ∀ s y t, (y, t) ∈ F s → (y = x ∧ t = s) ∨ (y ≠ x ∧ (y, t) ∈ E) := fun s y t m => by
    by_cases z : y = x
    · subst z
      exact .inl ⟨rfl, nodup_key (nd s) m (mem s)⟩
    · rcases (hp.spec s).2.2.2 _ m with q | q
      · exact absurd (Prod.mk.inj q).1 z
      · exact .inr ⟨z, q⟩
  have apart : ∀ y t, (y, t) ∈ E → y ≠ x → t.isOwn → α y ≠ α x := fun y t m n o q => n (e2 y x t _ m hm.mem o trivial q)
  refine ⟨i, α x, xs, hi, hs, hH, hr, fun l' xs' hr' => ?_, ?_⟩
  · have stay : ∀ a o, a ≠ α x → H a = some o → upd H (α x) (.dK xs') a = some o := fun a o n q => by rw [upd_ne n]; exact q
    have neG : ∀ a o, G a = some o → a ≠ α x := fun a o q z => by subst z; rw [hG] at q; cases q
    have neH : ∀ a o, H0 a = some o → a ≠ α x := fun a o q z => by subst z; rw [h0] at q; cases q
    refine ⟨⟨he.gr.gg, fun a o q => stay a o (neG a o q) (he.gr.gh a o q), fun a o n q => stay a o (neH a o q) (he.gr.hh a o n q), fun a q => ?_, he.gr.fr, he.gr.ff⟩, he.ln, ?_, nd _, α, fun y t m => ?_, fun y z s t m1 m2 o1 o2 q => ?_⟩
    · by_cases z : a = α x
      · subst z; rw [upd_same]; simp
      · rw [upd_ne z]; exact he.gr.th a q
    · exact A.stay u G H G _ he.st (Kn.refl _) (fun a o f q => stay a o (fun z => hf (by rw [← z]; exact f)) q) fun a f q => q
    · rcases same _ y t m with ⟨rfl, rfl⟩ | ⟨n, m'⟩
      · exact ⟨i, hi, hs, hG, h0, hf, xs', upd_same, hr'⟩
      · obtain ⟨j, f1, f2⟩ := e1 y t m'
        refine ⟨j, f1, ?_⟩
        cases t with
        | un => trivial
        | dat d => exact f2
        | own m2 => obtain ⟨g1, g2, g3, g4, ys, g5, g6⟩ := f2; exact ⟨g1, g2, g3, g4, ys, stay _ _ (apart y _ m' n trivial) g5, g6⟩
        | ownD m2 => obtain ⟨g1, g2, g3, g4, ys, g5, g6⟩ := f2; exact ⟨g1, g2, g3, g4, ys, stay _ _ (apart y _ m' n trivial) g5, g6⟩
        | ownX R => obtain ⟨g1, g2, g3, g4, ys, g5, g6⟩ := f2; exact ⟨g1, g2, g3, g4, ys, stay _ _ (apart y _ m' n trivial) g5, g6⟩
        | knX R => exact f2
    · rcases same _ y s m1 with ⟨rfl, rfl⟩ | ⟨n1, m1'⟩ <;> rcases same _ z t m2 with ⟨rfl, rfl⟩ | ⟨n2, m2'⟩
      · rfl
      · exact absurd q.symm (apart z t m2' n2 o2)
      · exact absurd q (apart y s m1' n1 o1)
      · exact e2 y z s t m1' m2' o1 o2 q
  · have neF : ∀ a, A.foot u a → a ≠ α x := fun a f z => hf (by rw [← z]; exact f)
    refine ⟨⟨he.gr.gg.trans kn, fun a o q => ?_, he.gr.hh, he.gr.th, fun a q n => ?_, he.gr.ff⟩, he.ln, A.stay u G H _ H he.st kn (fun _ _ _ q => q) fun a f q => by rw [upd_ne (neF a f)]; exact q, nd _, α, fun y t m => ?_, fun y z s t m1 m2 o1 o2 q => ?_⟩
    · by_cases z : a = α x
      · subst z; rw [upd_same] at q; cases q; exact hH
      · rw [upd_ne z] at q; exact he.gr.gh a o q
    · by_cases z : a = α x
      · subst z; exact h0
      · rw [upd_ne z] at n; exact he.gr.fr a q n
    · rcases same _ y t m with ⟨rfl, rfl⟩ | ⟨n, m'⟩
      · exact ⟨i, hi, _, hs, by simp only [Rp]; exact ⟨_, xs, rfl, upd_same, hr.mono kn⟩⟩
      · obtain ⟨j, f1, f2⟩ := e1 y t m'
        refine ⟨j, f1, ?_⟩
        have up : t.isOwn → ∀ z, G z = none → z = α y → upd G (α x) (HO.dK xs) z = none := fun o z g1 ez => by rw [upd_ne (by rw [ez]; exact apart y t m' n o)]; exact g1
        cases t with
        | un => trivial
        | dat d => obtain ⟨v, g1, g2⟩ := f2; exact ⟨v, g1, g2.mono kn⟩
        | own m2 => obtain ⟨g1, g2, g3, g4, ys, g5, g6⟩ := f2; exact ⟨g1, up trivial _ g2 rfl, g3, g4, ys, g5, g6.mono kn⟩
        | ownD m2 => obtain ⟨g1, g2, g3, g4, ys, g5, g6⟩ := f2; exact ⟨g1, up trivial _ g2 rfl, g3, g4, ys, g5, g6.mono kn⟩
        | ownX R => obtain ⟨g1, g2, g3, g4, ys, g5, g6⟩ := f2; exact ⟨g1, up trivial _ g2 rfl, g3, g4, ys, g5, R.mono kn g6⟩
        | knX R => obtain ⟨q', ob, e, h1, h2⟩ := f2; exact ⟨q', ob, e, kn _ _ h1, R.mono kn h2⟩
    · rcases same _ y s m1 with ⟨rfl, rfl⟩ | ⟨n1, m1'⟩ <;> rcases same _ z t m2 with ⟨rfl, rfl⟩ | ⟨n2, m2'⟩
      · rfl
      · exact (show False from o1).elim
      · exact (show False from o2).elim
      · exact e2 y z s t m1' m2' o1 o2 q
theorem Env.putOwnD {G0 : Beg} {H0 G H : Hp} {σ : L2.St} {x : Str} {F : Sl → NE} {l : List (Key × D)} {q : Addr} {xs : List (Key × V)} {i : Nat} (he : Env C A G0 H0 u G H E σ) (hp : Spl E x F) (hi : C.N[i]? = some x) (hl : σ.length = C.N.length) (nd : C.N.Nodup)
    (hG : G q = none) (h0 : H0 q = none) (hf : ¬ A.foot u q) (hH : H q = some (.dK xs)) (r : RpK C.K G l xs) (hnew : ∀ (y : Str) (s : Sl) (a : Addr), (y, s) ∈ E → y ≠ x → s.isOwn → (∀ j : Nat, C.N[j]? = some y → σ[j]? = some (some (.ref a))) → a ≠ q) :
    Env C A G0 H0 u G H (F (.ownD l)) (σ.set i (some (.ref q))) := by
  obtain ⟨h1, h2, _, h4⟩ := hp.spec (.ownD l)
  obtain ⟨α, e1, e2⟩ := he.ent
  have nd' : ((F (.ownD l)).map (·.1)).Nodup := by rw [h1]; exact he.nd
  have key : ∀ y s, (y, s) ∈ F (.ownD l) → (y = x ∧ s = .ownD l) ∨ (y ≠ x ∧ (y, s) ∈ E) := fun y s m => by
    by_cases z : y = x
    · subst z; exact .inl ⟨rfl, nd_slot nd' m h2⟩
    · rcases h4 _ m with w | w
      · exact absurd (Prod.mk.inj w).1 z
      · exact .inr ⟨z, w⟩
  have ixu : ∀ {y : Str} {j k : Nat}, C.N[j]? = some y → C.N[k]? = some y → j = k := fun a b => nodup_ix nd a b
  have far : ∀ y s, (y, s) ∈ E → y ≠ x → s.isOwn → α y ≠ q := fun y s m ne o => by
    obtain ⟨j, f1, f2⟩ := e1 y s m
    refine hnew y s (α y) m ne o fun j' hj' => ?_
    obtain rfl := ixu f1 hj'
    cases s with
    | own _ => exact f2.1
    | ownD _ => exact f2.1
    | ownX _ => exact f2.1
    | _ => exact o.elim
  refine ⟨he.gr, he.ln, he.st, nd', fun y => if y = x then q else α y, fun y s m => ?_, fun y z s t m1 m2 o1 o2 ee => ?_⟩
  · rcases key y s m with ⟨rfl, rfl⟩ | ⟨ne, m'⟩
    · refine ⟨i, hi, ?_⟩
      dsimp only
      rw [if_pos rfl]
      refine ⟨?_, hG, h0, hf, xs, hH, r⟩
      rw [List.getElem?_set_self]
      rw [hl]
      exact (List.getElem?_eq_some_iff.mp hi).1
    · obtain ⟨j, f1, f2⟩ := e1 y s m'
      refine ⟨j, f1, ?_⟩
      have : i ≠ j := fun q => ne (by subst q; rw [hi] at f1; exact (Option.some.inj f1).symm)
      dsimp only
      rw [List.getElem?_set_ne this, if_neg ne]
      exact f2
  · dsimp only at ee
    rcases key y s m1 with ⟨rfl, rfl⟩ | ⟨n1, m1'⟩
    · rcases key z t m2 with ⟨rfl, rfl⟩ | ⟨n2, m2'⟩
      · rfl
      · rw [if_pos rfl, if_neg n2] at ee
        exact absurd ee.symm (far z t m2' n2 o2)
    · rcases key z t m2 with ⟨rfl, rfl⟩ | ⟨n2, m2'⟩
      · rw [if_pos rfl, if_neg n1] at ee
        exact absurd ee (far y s m1' n1 o1)
      · rw [if_neg n1, if_neg n2] at ee
        exact e2 y z s t m1' m2' o1 o2 ee
/-- x = {} -/
theorem s_dnew {x : Str} {kd : NameKind} {F : Sl → NE} (hx : Spl E x F) (hn : Nm C.nm x kd) (hk : LocK kd) (h : P.nx (F (.ownD [])) u) (hs : ∀ env, swapsWith (.Dict [] [] p2) (some (.Name x p)) pos.line env = pure false := by intro _; rfl) :
    StK C A (.Assign [.Name x p] (.Dict [] [] p2) pos) E u P := by
  intro G0 H0 G H σ Ds he S X pins s hX I
  obtain ⟨k, nm, rfl, hO, hK⟩ := id hX
  obtain ⟨i, hi⟩ := he.ix hx
  refine (ps_set (i := i) (pos' := p) hK.nd hi (hn.loc hO hk) pe_dnewK (hs X.env) (hn.fn hO hk)).run pins s σ H Ds I ?_
  intro q hq
  have g2 : Grow noFoot noFoot G H G (upd H q (.dK [])) := Grow.own he.kn hq
  have st2 := A.grow he.st g2
  have he' := he.go g2.weak st2
  have hG : G q = none := he.kn.back hq
  refine S.nx _ u G _ _ h (he'.putOwnD hx hi I.len hK.nd hG ?_ (fun f => A.there _ _ _ he.st q f hq) upd_same (by simp only [RpK]) ?_)
  · cases w : H0 q with
    | none => rfl
    | some o => exact absurd hq (he.gr.th q (by rw [w]; simp))
  · intro y s a m ne o ha e
    subst e
    obtain ⟨α, e1, _⟩ := he.ent
    obtain ⟨j, f1, f2⟩ := e1 y s m
    have hj := ha j f1
    have key : ∀ {o : HO}, σ[j]? = some (some (V.ref (α y))) → H (α y) = some o → False := fun {o} w1 w2 => by
      rw [hj] at w1
      have w3 := Option.some.inj (Option.some.inj w1)
      have w4 : a = α y := by injection w3
      rw [← w4, hq] at w2
      cases w2
    cases s with
    | own _ => obtain ⟨w1, _, _, _, _, w2, _⟩ := f2; exact key w1 w2
    | ownD _ => obtain ⟨w1, _, _, _, _, w2, _⟩ := f2; exact key w1 w2
    | ownX _ => obtain ⟨w1, _, _, _, _, w2, _⟩ := f2; exact key w1 w2
    | _ => exact o.elim
/-- in its place, or at the end -/
def putD (kds : List (Key × D)) (k : Key) (d : D) : List (Key × D) :=
  if (kds.any fun kv => decide (kv.1 = k)) = true then kds.map (fun kv => if kv.1 = k then (kv.1, d) else kv) else kds ++ [(k, d)]
theorem RpK.any {K : PySem.W.Frag} {G : Hp} {k : Key} : ∀ {kds : List (Key × D)} {kvs : List (Key × V)}, RpK K G kds kvs → (kvs.any fun kv => decide (kv.1 = k)) = kds.any fun kv => decide (kv.1 = k)
  | [], kvs, h => by simp only [RpK] at h; subst h; rfl
  | (k', d') :: kds, kvs, h => by
    simp only [RpK] at h
    obtain ⟨x, r, rfl, h1, h2⟩ := h
    rw [List.any_cons, List.any_cons, RpK.any h2]
theorem RpK.repl {K : PySem.W.Frag} {G : Hp} {k : Key} {d : D} {v : V} (hd : Rp K G d v) : ∀ {kds : List (Key × D)} {kvs : List (Key × V)}, RpK K G kds kvs → RpK K G (kds.map fun kv => if kv.1 = k then (kv.1, d) else kv) (kvs.map fun kv => if kv.1 = k then (kv.1, v) else kv)
  | [], kvs, h => by simp only [RpK] at h; subst h; simp only [List.map_nil, RpK]
  | (k', d') :: kds, kvs, h => by
    simp only [RpK] at h
    obtain ⟨x, r, rfl, h1, h2⟩ := h
    rw [List.map_cons, List.map_cons]
    by_cases z : k' = k
    · rw [if_pos z, if_pos z]; simp only [RpK]; exact ⟨v, _, rfl, hd, RpK.repl hd h2⟩
    · rw [if_neg z, if_neg z]; simp only [RpK]; exact ⟨x, _, rfl, h1, RpK.repl hd h2⟩
theorem RpK.snoc {K : PySem.W.Frag} {G : Hp} {k : Key} {d : D} {v : V} (hd : Rp K G d v) : ∀ {kds : List (Key × D)} {kvs : List (Key × V)}, RpK K G kds kvs → RpK K G (kds ++ [(k, d)]) (kvs ++ [(k, v)])
  | [], kvs, h => by simp only [RpK] at h; subst h; simp only [List.nil_append, RpK]; exact ⟨v, [], rfl, hd, rfl⟩
  | (k', d') :: kds, kvs, h => by
    simp only [RpK] at h
    obtain ⟨x, r, rfl, h1, h2⟩ := h
    rw [List.cons_append, List.cons_append]
    simp only [RpK]
    exact ⟨x, _, rfl, h1, RpK.snoc hd h2⟩
theorem RpK.put {K : PySem.W.Frag} {G : Hp} {k : Key} {d : D} {v : V} {kds : List (Key × D)} {kvs : List (Key × V)} (h : RpK K G kds kvs) (hd : Rp K G d v) : RpK K G (putD kds k d) (putK kvs k v) := by
  unfold putD putK
  rw [h.any]
  by_cases z : (kds.any fun kv => decide (kv.1 = k)) = true
  · rw [if_pos z, if_pos z]; exact RpK.repl hd h
  · rw [if_neg z, if_neg z]; exact RpK.snoc hd h
theorem own_varD {X : Cx} {G0 : Beg} {H0 G H : Hp} {σ : L2.St} {x : Str} {l : List (Key × D)} {kd : NameKind} (hX : Has C X) (he : Env C A G0 H0 u G H E σ) (hm : At E x (.ownD l)) (hn : Nm C.nm x kd) (hv : VisK kd)
    (hd : (x == ("__debug__" : Str)) = false) (hc : (x == ("__classdict__" : Str)) = false) : ∃ i : Nat, PE X (.Name x p) (tVar i) ∧ C.N[i]? = some x := by
  obtain ⟨j, nm, rfl, hO, hK⟩ := id hX
  obtain ⟨α, e1, _⟩ := he.ent
  obtain ⟨i, hi, _⟩ := e1 x _ hm.mem
  exact ⟨i, pe_var (i := i) hi (hn.vis hO hv) hd hc, hi⟩
/-- x[a] = e, x an own dict -/
theorem s_dput {x : Str} {F : Sl → NE} {l : List (Key × D)} {kd : NameKind} (hp : Spl E x F) (hm : At E x (.ownD l)) (hn : Nm C.nm x kd) (hv : VisK kd)
    (h : EvK C A e E u fun d u1 => EvK C A a E u1 fun dk u2 => ∃ k : Key, dk = kD k ∧ l.length < sizeLine ∧ P.nx (F (.ownD (putD l k d))) u2)
    (hd : (x == ("__debug__" : Str)) = false := by decide +kernel) (hc : (x == ("__classdict__" : Str)) = false := by decide +kernel)
    (hs : ∀ env, swapsWith e (some (.Subscript (.Name x p) a p2)) pos.line env = pure false := by intro _; rfl) :
    StK C A (.Assign [.Subscript (.Name x p) a p2] e pos) E u P := by
  intro G0 H0 G H σ Ds he S X pins s hX I
  obtain ⟨i, pv, hi⟩ := own_varD (p := p) hX he hm hn hv hd hc
  obtain ⟨jj, nm, rfl, hO, hK⟩ := id hX
  have hu := Has.hu hK
  refine (ps_dput (by omega) pv (pe_of hX a) (pe_of hX e) (hs _)).run pins s σ H Ds I ?_
  obtain ⟨i', q, xs, hi', hσ, hH, hr, _, _⟩ := he.chgD hp hm
  obtain rfl : i = i' := nodup_ix hK.nd hi hi'
  refine h G0 H0 G H σ he _ fun d u1 v1 G1 H1 k1 g1 st1 r1 => ?_
  have he1 := he.go g1 st1
  refine ⟨.ref q, hσ, ?_⟩
  refine k1 G0 H0 G1 H1 σ he1 _ fun dk u2 v2 G2 H2 ⟨k, e3, hj, k2⟩ g2 st2 r2 => ?_
  subst e3
  rw [kD_rp] at r2
  subst r2
  have he2 := he1.go g2 st2
  obtain ⟨i3, q3, xs2, hi3, hσ2, hH2, hr2, ch, _⟩ := he2.chgD hp hm
  obtain rfl : i = i3 := nodup_ix hK.nd hi hi3
  obtain rfl : q = q3 := by rw [hσ] at hσ2; cases hσ2; rfl
  exact ⟨q, _, rfl, DPut.k hH2 (by rw [hr2.len]; exact hj), S.nx _ u2 G2 _ σ k2 (ch _ _ (hr2.put (r1.mono g2.gg)))⟩
theorem own_atD {x : Str} {l : List (Key × D)} {G0 : Beg} {H0 G H : Hp} {σ : L2.St} (he : Env C A G0 H0 u G H E σ) (hm : At E x (.ownD l)) : ∃ (i : Nat) (q : Addr) (xs : List (Key × V)), C.N[i]? = some x ∧ σ[i]? = some (some (.ref q)) ∧ G q = none ∧ ¬ A.foot u q ∧ H q = some (.dK xs) ∧ RpK C.K G l xs := by
  obtain ⟨α, e1, _⟩ := he.ent
  obtain ⟨i, hi, h1, h2, _, h4, xs, h5, h6⟩ := e1 x _ hm.mem
  exact ⟨i, α x, xs, hi, h1, h2, h4, h5, h6⟩
theorem b_ownD {x : Str} {l : List (Key × D)} {kd : NameKind} (hm : At E x (.ownD l)) (hn : Nm C.nm x kd) (hv : VisK kd) (q : Φ (.dct l) u) (hd : (x == ("__debug__" : Str)) = false := by decide +kernel) (hc : (x == ("__classdict__" : Str)) = false := by decide +kernel) : EvB C A (.Name x p) E u Φ := by
  intro G0 H0 G H σ he Q k X pins s hX I
  obtain ⟨i, pv, hi⟩ := own_varD (p := p) hX he hm hn hv hd hc
  obtain ⟨i', z, xs, hi', hσ, hG, hf, hH, hr⟩ := own_atD he hm
  obtain ⟨j, nm, rfl, hO, hK⟩ := id hX
  obtain rfl : i = i' := nodup_ix hK.nd hi hi'
  have kn := Kn.new (G := G) (p := z) (o := .dK xs) hG
  refine pv.run pins s σ H Q I ⟨.ref z, hσ, k (.dct l) u _ G H (upd G z (.dK xs)) q (Grow.refl he.kn) he.st kn (fun a o w => ?_) (fun a o w => ?_) ?_⟩
  · by_cases w2 : a = z
    · subst w2; rw [upd_same] at w; cases w; exact hH
    · rw [upd_ne w2] at w; exact he.kn a o w
  · by_cases w2 : a = z
    · subst w2; exact .inr hf
    · rw [upd_ne w2] at w; exact .inl w
  · simp only [Rp]
    exact ⟨z, xs, rfl, upd_same, hr.mono kn⟩
end
/-! ### in -/
def inB (x y : D) (Ψ : Bool → Prop) : Prop :=
  (∃ (s : Str) (ss : List Str), x = .str s ∧ (y = .lst (ss.map .str) ∨ y = .tup (ss.map .str)) ∧ Ψ (decide (s ∈ ss))) ∨
  (∃ (i : Int) (is : List Int), x = .int i ∧ (y = .lst (is.map .int) ∨ y = .tup (is.map .int)) ∧ Ψ (decide (i ∈ is))) ∨
  (∃ (c : Nat) (z : Str), x = .str ⟨#[c]⟩ ∧ y = .str z ∧ Ψ (decide (c ∈ z.cps.toList))) ∨
  ∃ (k : Key) (kds : List (Key × D)), x = kD k ∧ y = .dct kds ∧ Ψ (valD kds k).isSome
def ninB (x y : D) (Ψ : Bool → Prop) : Prop := inB x y fun b => Ψ (!b)
theorem inB_mono : ∀ (x y : D) (P P' : Bool → Prop), (∀ k, P k → P' k) → inB x y P → inB x y P' := by
  rintro x y P P' h (⟨s, ss, h1, h2, h3⟩ | ⟨s, ss, h1, h2, h3⟩ | ⟨s, ss, h1, h2, h3⟩ | ⟨s, ss, h1, h2, h3⟩)
  · exact .inl ⟨s, ss, h1, h2, h _ h3⟩
  · exact .inr (.inl ⟨s, ss, h1, h2, h _ h3⟩)
  · exact .inr (.inr (.inl ⟨s, ss, h1, h2, h _ h3⟩))
  · exact .inr (.inr (.inr ⟨s, ss, h1, h2, h _ h3⟩))
theorem ninB_mono : ∀ (x y : D) (P P' : Bool → Prop), (∀ k, P k → P' k) → ninB x y P → ninB x y P' := fun x y P P' h k => inB_mono x y _ _ (fun b => h (!b)) k
theorem rpa_strs {K : PySem.W.Frag} {G : Hp} : ∀ {ss : List Str} {xs : List V}, RpA K G (ss.map .str) xs → xs = ss.map V.str
  | [], xs, h => by rw [List.map_nil, RpA.nil_iff] at h; exact h
  | s :: ss, xs, h => by
    rw [List.map_cons, RpA.cons_iff] at h
    obtain ⟨x, r, rfl, h1, h2⟩ := h
    simp only [Rp] at h1
    rw [h1, rpa_strs h2, List.map_cons]
theorem rpa_ints {K : PySem.W.Frag} {G : Hp} : ∀ {ss : List Int} {xs : List V}, RpA K G (ss.map .int) xs → xs = ss.map V.int
  | [], xs, h => by rw [List.map_nil, RpA.nil_iff] at h; exact h
  | s :: ss, xs, h => by
    rw [List.map_cons, RpA.cons_iff] at h
    obtain ⟨x, r, rfl, h1, h2⟩ := h
    simp only [Rp] at h1
    rw [h1, rpa_ints h2, List.map_cons]
theorem inV_strs (s : Str) : ∀ ss : List Str, inV (.str s) (ss.map V.str) = decide (s ∈ ss)
  | [] => by simp [inV]
  | t :: ss => by
    have h := inV_strs s ss
    unfold inV at h ⊢
    rw [List.map_cons, List.any_cons, h]
    have e : eqV (.str t) (.str s) = decide (s = t) := by
      simp only [eqV, BEq.beq]
      by_cases z : s = t
      · subst z; simp
      · rw [decide_eq_false z]; simp; exact fun z2 => z z2.symm
    rw [e]
    simp [List.mem_cons]
theorem inV_ints (s : Int) : ∀ ss : List Int, inV (.int s) (ss.map V.int) = decide (s ∈ ss)
  | [] => by simp [inV]
  | t :: ss => by
    have h := inV_ints s ss
    unfold inV at h ⊢
    rw [List.map_cons, List.any_cons, h]
    have e : eqV (.int t) (.int s) = decide (s = t) := by
      simp only [eqV, BEq.beq]
      by_cases z : s = t
      · subst z; simp
      · rw [decide_eq_false z]; simp; exact fun z2 => z z2.symm
    rw [e]
    simp [List.mem_cons]
theorem flat_strs (ss : List Str) : (ss.map V.str).all flatV = true := by
  rw [List.all_map]; exact List.all_eq_true.mpr fun _ _ => rfl
theorem flat_ints (ss : List Int) : (ss.map V.int).all flatV = true := by
  rw [List.all_map]; exact List.all_eq_true.mpr fun _ _ => rfl
section
variable {C : SC}
theorem rpk_val {K : PySem.W.Frag} {G : Hp} {k : Key} {kds : List (Key × D)} {kvs : List (Key × V)} (h : RpK K G kds kvs) : (valV kvs k).isSome = (valD kds k).isSome := by
  cases e : valD kds k with
  | none => rw [h.none e]; rfl
  | some d => obtain ⟨v, e2, _⟩ := h.val e; rw [e2]; rfl
theorem in_any (neg : Bool) {X : Cx} (hu : X.A.units + 1 < cLine) {op : CmpOp} (hop : op = if neg = true then .NotIn else .In) : OpR X (compareOp op) (rD X.K (toB fun x y Ψ => inB x y fun b => Ψ (if neg = true then !b else b))) := by
  rintro pins s σ H x y v u Q I rx ry ⟨G, da, db, Ψ, kn, ra, rb, w, q⟩
  have seq : ∀ {d : D}, d.atom = true → Ψ d → ∀ z, (∀ G', Rp X.K G' d z) → Q z H := fun {d} hd p z r => q d z G H p (Grow.refl kn) (r G)
  rcases w with ⟨s1, ss, rfl, h2, p⟩ | ⟨s1, ss, rfl, h2, p⟩ | ⟨c, z, rfl, rfl, p⟩ | ⟨k, kds, rfl, rfl, p⟩
  · simp only [Rp] at ra
    subst ra
    have key : ∃ z, y = .ref z ∧ (SqL X.K H z (ss.map V.str) ∨ SqT X.K H z (ss.map V.str)) := by
      rcases h2 with rfl | rfl
      · simp only [Rp] at rb
        obtain ⟨z, xs, rfl, h1, h2⟩ := rb
        rw [rpa_strs h2] at h1
        exact ⟨z, rfl, .inl (SqL.of (kn _ _ h1))⟩
      · simp only [Rp] at rb
        obtain ⟨z, xs, rfl, h1, h2⟩ := rb
        rw [rpa_strs h2] at h1
        exact ⟨z, rfl, .inr (Kn.sqT kn h1)⟩
    obtain ⟨z, rfl, hz⟩ := key
    cases neg
    · subst hop
      refine op_in_seq pins s σ H _ _ v u Q I rx ry ⟨z, _, rfl, hz, rfl, flat_strs ss, ?_⟩
      rw [inV_strs]
      exact seq rfl p _ fun _ => by simp only [Rp]
    · subst hop
      refine op_notIn_seq pins s σ H _ _ v u Q I rx ry ⟨z, _, rfl, hz, rfl, flat_strs ss, ?_⟩
      rw [inV_strs]
      exact seq rfl p _ fun _ => by simp only [Rp]
  · simp only [Rp] at ra
    subst ra
    have key : ∃ z, y = .ref z ∧ (SqL X.K H z (ss.map V.int) ∨ SqT X.K H z (ss.map V.int)) := by
      rcases h2 with rfl | rfl
      · simp only [Rp] at rb
        obtain ⟨z, xs, rfl, h1, h2⟩ := rb
        rw [rpa_ints h2] at h1
        exact ⟨z, rfl, .inl (SqL.of (kn _ _ h1))⟩
      · simp only [Rp] at rb
        obtain ⟨z, xs, rfl, h1, h2⟩ := rb
        rw [rpa_ints h2] at h1
        exact ⟨z, rfl, .inr (Kn.sqT kn h1)⟩
    obtain ⟨z, rfl, hz⟩ := key
    cases neg
    · subst hop
      refine op_in_seq pins s σ H _ _ v u Q I rx ry ⟨z, _, rfl, hz, rfl, flat_ints ss, ?_⟩
      rw [inV_ints]
      exact seq rfl p _ fun _ => by simp only [Rp]
    · subst hop
      refine op_notIn_seq pins s σ H _ _ v u Q I rx ry ⟨z, _, rfl, hz, rfl, flat_ints ss, ?_⟩
      rw [inV_ints]
      exact seq rfl p _ fun _ => by simp only [Rp]
  · simp only [Rp] at ra rb
    subst ra rb
    cases neg
    · subst hop
      simp only [Bool.false_eq_true, if_false] at p
      exact op_inS pins s σ H _ _ v u Q I rx ry ⟨c, z, rfl, rfl, seq rfl p _ fun _ => by simp only [Rp]⟩
    · subst hop
      simp only [if_true] at p
      exact op_notInS pins s σ H _ _ v u Q I rx ry ⟨c, z, rfl, rfl, seq rfl p _ fun _ => by simp only [Rp]⟩
  · rw [kD_rp] at ra
    subst ra
    simp only [Rp] at rb
    obtain ⟨z, kvs, rfl, hz, hr⟩ := rb
    obtain rfl : u = Value.ref z := ry
    have g := DGet.k (k := k) (kn _ _ hz)
    rw [← rpk_val hr] at p
    cases neg
    · subst hop
      simp only [Bool.false_eq_true, if_false] at p
      exact d_in hu I g rx fun s' I' => ⟨.bl _, H, I', rfl, seq rfl p _ fun _ => by simp only [Rp]⟩
    · subst hop
      simp only [if_true] at p
      exact d_notIn hu I g rx fun s' I' => ⟨.bl _, H, I', rfl, seq rfl p _ fun _ => by simp only [Rp]⟩
theorem in_ok : OpS C (compareOp .In) (toB inB) := by
  rintro X ⟨k, nm, rfl, hO, hK⟩
  have hu := Has.hu hK
  exact in_any false (by omega) rfl
theorem nin_ok : OpS C (compareOp .NotIn) (toB ninB) := by
  rintro X ⟨k, nm, rfl, hO, hK⟩
  have hu := Has.hu hK
  exact in_any true (by omega) rfl
end
end L3
namespace SrtP
open PySem PySem.Spec PyProof.Rows Srt SrtO
section
variable {prog : Program} {w : World} {A : Around} {E : Value → Shared → Prop} {s : Shared}
/-- v is a tuple of an int and a text in the heap -/
def IsPS (h : Heap) (v : Value) (x : Int) (y : Str) : Prop := ∃ a o t u n, v = .ref a ∧ h.get? a = some o ∧ o.cls = .type "tuple" ∧ o.data = .seq #[.int x t, .str y u] n
theorem IsPS.keeps {h h' : Heap} {v : Value} {x : Int} {y : Str} (p : IsPS h v x y) (k : ∀ b o, h.get? b = some o → o.cls = .type "tuple" → h'.get? b = some o) : IsPS h' v x y := by
  obtain ⟨a, o, t, u, n, e, ho, hc, hd⟩ := p
  exact ⟨a, o, t, u, n, e, k _ _ ho hc, hc, hd⟩
theorem swo_key (k : Value → Int) : Swo fun v u => decide (k v < k u) := by
  refine ⟨fun x y h => ?_, fun x y z h1 h2 => ?_⟩
  · have a := of_decide_eq_true h
    exact decide_eq_false (by omega)
  · have a := of_decide_eq_false h1
    have b := of_decide_eq_false h2
    exact decide_eq_false (by omega)
theorem ps_cmp {vs : List Value} {k : Value → Int} (hp : ∀ v ∈ vs, ∃ y, IsPS s.heap v (k v) y) (hd : ∀ v ∈ vs, ∀ u ∈ vs, k v = k u → v = u) : Cmp prog w A s (tuples' true) (fun p => p.1 ∈ vs) (lt2 fun v u => decide (k v < k u)) := by
  intro p q hm hm'
  obtain ⟨y, h1⟩ := hp _ hm
  obtain ⟨y', h2⟩ := hp _ hm'
  have hk := hd _ hm _ hm'
  show wpAny (model prog w) A (keyLt' (tuples' true) p.1 q.1) (fun r s' => s' = s ∧ r = decide (k p.1 < k q.1)) (fun _ _ => False) s
  obtain ⟨a, o, t, u, n, e, ho, hc, hdt⟩ := h1
  obtain ⟨a', o', t', u', n', e', ho', hc', hdt'⟩ := h2
  have same : k p.1 = k q.1 → y = y' := fun ek => by
    have ev := hk ek
    rw [e, e'] at ev
    have ea : a = a' := by injection ev
    subst ea
    rw [ho] at ho'
    have eo := Option.some.inj ho'
    subst eo
    rw [hdt] at hdt'
    have ed : (#[Value.int (k p.1) t, Value.str y u] : Array Value) = #[Value.int (k q.1) t', Value.str y' u'] := by injection hdt'
    simp only [Array.mk.injEq, List.cons.injEq, Value.str.injEq, and_true] at ed
    exact ed.2.1
  generalize k p.1 = x at hdt same ⊢
  generalize k q.1 = x' at hdt' same ⊢
  rw [e, e']
  refine PySem.W.kat_lt ho hdt ho' hdt' ?_
  show PySem.W.KatLex prog w A true (decide (2 < 2)) _ [(.int x t, .int x' t'), (.str y u, .str y' u')] 0 s
  refine PySem.W.kat_cons (SeqAt.EqAt.int_int x t x' t' prog w _ _ ?_)
  refine PySem.W.kat_go (fun e1 => ?_) (fun e1 => ?_)
  · have ex : x = x' := by simpa using e1
    refine PySem.W.kat_yes (PySem.W.kat_cons (SeqAt.EqAt.str_str y u y' u' prog w _ _ ?_))
    have ey : (y == y') = true := by rw [same ex]; simp
    rw [ey]
    have e3 : decide (x < x') = false := decide_eq_false (by omega)
    exact PySem.W.kat_yes (PySem.W.kat_nil ⟨rfl, e3.symm⟩)
  · exact PySem.W.kat_no (oneLt_int ⟨rfl, rfl⟩)
theorem firsts_ps {h : Heap} : ∀ {vs : List Value}, (∀ v ∈ vs, ∃ x y, IsPS h v x y) → ∃ fs : List Value, PySem.W.KatTups h vs fs ∧ fs.length = vs.length ∧ ∀ f ∈ fs, ∃ x t, f = Value.int x t
  | [], _ => ⟨[], PySem.W.KatTups.nil, rfl, fun _ hm => by simp at hm⟩
  | v :: vs, hp => by
    obtain ⟨fs, h1, h2, h3⟩ := firsts_ps (vs := vs) fun v' hm => hp v' (List.mem_cons_of_mem _ hm)
    obtain ⟨x, y, a, o, t, u, n, e, ho, hc, hd⟩ := hp v (List.mem_cons_self ..)
    subst e
    refine ⟨.int x t :: fs, PySem.W.KatTups.cons ho hc hd rfl h1, by rw [List.length_cons, List.length_cons, h2], fun f hm => ?_⟩
    rcases List.mem_cons.mp hm with rfl | hm
    · exact ⟨x, t, rfl⟩
    · exact h3 f hm
theorem ps_sortable {a : Addr} {vs : List Value} {k : Value → Int} (h0 : 0 < vs.length) (hp : ∀ v ∈ vs, ∃ y, IsPS s.heap v (k v) y) (hd : ∀ v ∈ vs, ∀ u ∈ vs, k v = k u → v = u) (ha : ∀ o, s.heap.get? a = some o → o.cls ≠ .type "tuple") : SortableO prog w A s a vs fun v u => decide (k v < k u) := by
  intro h' keep
  have hp' : ∀ v ∈ vs, ∃ y, IsPS h' v (k v) y := fun v hm => by
    obtain ⟨y, p⟩ := hp v hm
    exact ⟨y, p.keeps fun b o e c => keep b o (fun z => by subst z; exact ha o e c) e⟩
  obtain ⟨fs, h1, h2, h3⟩ := firsts_ps fun v hm => ⟨_, hp' v hm⟩
  refine ⟨tuples' true, fun Q E hq => ?_, ps_cmp hp' hd⟩
  refine PySem.W.kat_kind (T := .type "int") h1 (by omega) (fun f hm => ?_) (by rfl) ?_
  · obtain ⟨x, t, rfl⟩ := h3 f hm
    exact PySem.W.Looks.now
  · have e : (Value.type "int" != Value.type "tuple") = true := by first | decide +kernel | rfl | decide
    rw [e]
    exact hq
theorem sorted_ps {l : Addr} {vs : List Value} {k : Value → Int} {Q : Value → Shared → Prop} (hl : s.heap.IsList l vs.toArray) (hz : vs.length ≤ sizeLine) (hp : ∀ v ∈ vs, ∃ y, IsPS s.heap v (k v) y) (hd : ∀ v ∈ vs, ∀ u ∈ vs, k v = k u → v = u)
    (h : ∀ (h' : Heap) (d : Addr) (out : List Value), out.Pairwise (fun v u => k v ≤ k u) → out.Perm vs → (∀ b o, s.heap.get? b = some o → h'.get? b = some o) → s.heap.objs.size ≤ d → (∃ n, h'.get? d = some (seqObj "list" out.toArray n)) → Q (.ref d) { s with heap := h' }) :
    wpAny (model prog w) A (call (.builtin "sorted") [.ref l]) Q E s := by
  refine sorted_ord (swo_key k) hl hz (fun h2 h₁ a ha kk => ?_) fun out hs hb => ?_
  · refine ps_sortable (s := { s with heap := h₁ }) (by omega) (fun v hm => ?_) hd fun o e => ?_
    · obtain ⟨y, p⟩ := hp v hm
      exact ⟨y, p.keeps fun b o e _ => (kk b o e).2⟩
    have e' : some o = some (seqObj "list" vs.toArray 0) := e.symm.trans ha
    cases e'
    intro c
    exact absurd (Value.type.inj c) (by decide)
  · refine h _ _ out (hs.imp fun {a b} z => ?_) hb.perm (fun b o e => sortedAll_old e) (Nat.le_succ _) (sortedAll_at s.heap vs out.toArray)
    have := of_decide_eq_false z
    omega
end
section
open L2
variable {X : Cx}
def rSortIS (K : PySem.W.Frag) : List V → Hp → VK → Prop := fun vs H Q => ∃ (a : Addr) (xs : List V) (key : V → Int), vs = [V.ref a] ∧ SqL K H a xs ∧ (∀ x ∈ xs, ∃ t s, x = V.ref t ∧ SqT K H t [.int (key x), .str s]) ∧
  (∀ x ∈ xs, ∀ y ∈ xs, key x = key y → x = y) ∧ ∀ ys p, ys.Perm xs → ys.Pairwise (fun x y => key x ≤ key y) → H p = none → Q (.ref p) (upd H p (.lst ys))
theorem cr_sortIS : CallR X (.builtin "sorted") (rSortIS X.K) := by
  intro pins s σ H vs us Q I r h
  obtain ⟨a, xs, key, rfl, hs, hx, hd, q⟩ := h
  obtain ⟨its, rv, hl, hz⟩ := I.list hs
  obtain ⟨u, rfl, ru⟩ := vals1 r
  obtain rfl : u = Value.ref a := ru
  obtain ⟨e1, e2⟩ := refs_back rv fun x m => by
    obtain ⟨t, _, e, _⟩ := hx x m
    exact ⟨t, e⟩
  have mem : ∀ v ∈ its, backV v ∈ xs := fun v hv => by rw [e1]; exact List.mem_map.mpr ⟨v, hv, rfl⟩
  refine sorted_ps (k := fun v => key (backV v)) hl.isList (by rw [← rv.length]; exact hz) (fun v hv => ?_) (fun v hv u hu ek => ?_) fun h' d out ho hp k hd' hn => ?_
  · obtain ⟨t, st, e, ht⟩ := hx _ (mem v hv)
    obtain ⟨t2, rfl⟩ := e2 v hv
    obtain rfl : t2 = t := by
      have : V.ref t2 = V.ref t := e
      injection this
    obtain ⟨its2, r2, ⟨o, ho, hc, n, hdt⟩, _⟩ := I.tuple ht
    obtain ⟨u1, u2, rfl, ri, rj⟩ := vals2 r2
    obtain ⟨t1, rfl⟩ := ri
    obtain ⟨t3, rfl⟩ := rj
    exact ⟨st, t2, o, t1, t3, n, rfl, ho, hc, hdt⟩
  · have h2 := hd _ (mem v hv) _ (mem u hu) ek
    obtain ⟨t1, rfl⟩ := e2 v hv
    obtain ⟨t2, rfl⟩ := e2 u hu
    have : V.ref t1 = V.ref t2 := h2
    injection this with this
    rw [this]
  · have h3 : ∀ u ∈ out, ∃ a, u = Value.ref a := fun u hu => e2 u (hp.mem_iff.mp hu)
    obtain ⟨n, hn⟩ := hn
    refine ⟨.ref d, upd H d (.lst (out.map backV)), I.laid (t' := s.toks) k hd' ⟨?_, out, n, vals_back h3, hn⟩, rfl, q _ d ?_ (List.pairwise_map.mpr ho) (I.hok.fresh hd')⟩
    · rw [List.length_map, hp.length_eq, ← rv.length]; exact hz
    · rw [e1]; exact hp.map backV
end
end SrtP
namespace L3
open PySem PySem.Spec PyProof.Rows L2
theorem RpA.perm {K : PySem.W.Frag} {G : Hp} {α : Type} {f : α → D} : ∀ {ys xs : List V}, ys.Perm xs → ∀ {ds : List α}, RpA K G (ds.map f) xs → ∃ es : List α, es.Perm ds ∧ RpA K G (es.map f) ys := by
  intro ys xs h
  induction h with
  | nil => intro ds r; exact ⟨ds, .refl _, r⟩
  | cons x _ ih =>
    intro ds r
    cases ds with
    | nil => rw [List.map_nil, RpA.nil_iff] at r; cases r
    | cons d ds =>
      rw [List.map_cons, RpA.cons_iff] at r
      obtain ⟨x', r', e, h1, h2⟩ := r
      cases e
      obtain ⟨es, p, q⟩ := ih h2
      exact ⟨d :: es, p.cons d, by rw [List.map_cons]; exact RpA.cons h1 q⟩
  | swap x y l =>
    intro ds r
    cases ds with
    | nil => rw [List.map_nil, RpA.nil_iff] at r; cases r
    | cons d ds =>
      rw [List.map_cons, RpA.cons_iff] at r
      obtain ⟨x', r', e, h1, h2⟩ := r
      cases e
      cases ds with
      | nil => rw [List.map_nil, RpA.nil_iff] at h2; cases h2
      | cons d2 ds =>
        rw [List.map_cons, RpA.cons_iff] at h2
        obtain ⟨x2, r2, e, h3, h4⟩ := h2
        cases e
        exact ⟨d2 :: d :: ds, .swap _ _ _, by rw [List.map_cons, List.map_cons]; exact RpA.cons h3 (RpA.cons h1 h4)⟩
  | trans _ _ ih1 ih2 =>
    intro ds r
    obtain ⟨e2, p2, r2⟩ := ih2 r
    obtain ⟨e1, p1, r1⟩ := ih1 r2
    exact ⟨e1, p1.trans p2, r1⟩
def isD (p : Int × Str) : D := .tup [.int p.1, .str p.2]
def sortW (ds : List D) (Ψ : D → Prop) : Prop := ∃ ps : List (Int × Str), ds = [.lst (ps.map isD)] ∧ (ps.map (·.1)).Nodup ∧ ∀ qs : List (Int × Str), qs.Perm ps → qs.Pairwise (fun a b => a.1 ≤ b.1) → Ψ (.lst (qs.map isD))
section
variable {C : SC} {A : Amb} {E : NE} {u : A.U} {P : Post A} {pos p p2 p3 p4 q1 q2 apos spos cpos : Pos} {e a b o : Expr} {Φ : D → A.U → Prop}
theorem isD_rp {K : PySem.W.Frag} {G : Hp} {p : Int × Str} {v : V} : Rp K G (isD p) v ↔ ∃ z, v = .ref z ∧ SqT K G z [.int p.1, .str p.2] := by
  unfold isD
  simp only [Rp]
  constructor
  · rintro ⟨z, xs, rfl, h1, h2⟩
    rw [RpA.cons_iff] at h2
    obtain ⟨x1, r, rfl, h3, h4⟩ := h2
    obtain ⟨x2, rfl, h5⟩ := rpa1 h4
    simp only [Rp] at h3 h5
    subst h3 h5
    exact ⟨z, rfl, h1⟩
  · rintro ⟨z, rfl, h1⟩
    exact ⟨z, _, rfl, h1, RpA.cons (by simp only [Rp]) (RpA.one (by simp only [Rp]))⟩
theorem isD_sorted {K : PySem.W.Frag} {G : Hp} {key : V → Int} : ∀ {es : List (Int × Str)} {ys : List V}, RpA K G (es.map isD) ys → (∀ x ∈ ys, ∀ z i s, x = V.ref z → SqT K G z [.int i, .str s] → key x = i) → ys.Pairwise (fun x y => key x ≤ key y) → es.Pairwise (fun a b => a.1 ≤ b.1)
  | [], _, _, _, _ => List.Pairwise.nil
  | e :: es, ys, r, hk, hp => by
    rw [List.map_cons, RpA.cons_iff] at r
    obtain ⟨x, r', rfl, h1, h2⟩ := r
    have hp := List.pairwise_cons.mp hp
    refine List.pairwise_cons.mpr ⟨fun e2 m => ?_, isD_sorted h2 (fun x m => hk x (List.mem_cons_of_mem _ m)) hp.2⟩
    obtain ⟨z, rfl, hz⟩ := isD_rp.mp h1
    rw [← hk _ List.mem_cons_self z _ _ rfl hz]
    obtain ⟨j, hj⟩ := List.getElem?_of_mem m
    obtain ⟨y, ey, ry⟩ := h2.getD (i := j) (d := isD e2) (by rw [List.getElem?_map, hj]; rfl)
    obtain ⟨z2, rfl, hz2⟩ := isD_rp.mp ry
    have my := List.mem_of_getElem? ey
    rw [← hk _ (List.mem_cons_of_mem _ my) z2 _ _ rfl hz2]
    exact hp.1 _ my
theorem isD_at {K : PySem.W.Frag} {G : Hp} {es : List (Int × Str)} {ys : List V} (r : RpA K G (es.map isD) ys) {x : V} (m : x ∈ ys) : ∃ (j : Nat) (p : Int × Str) (z : Addr), ys[j]? = some x ∧ es[j]? = some p ∧ x = .ref z ∧ SqT K G z [.int p.1, .str p.2] := by
  obtain ⟨j, hj⟩ := List.getElem?_of_mem m
  have hl : j < es.length := by
    have := (List.getElem?_eq_some_iff.mp hj).1
    rw [r.len, List.length_map] at this
    exact this
  obtain ⟨y, ey, ry⟩ := r.getD (i := j) (d := isD es[j]) (by rw [List.getElem?_map, List.getElem?_eq_getElem hl]; rfl)
  rw [hj] at ey
  cases ey
  obtain ⟨z, rfl, hz⟩ := isD_rp.mp ry
  exact ⟨j, es[j], z, hj, List.getElem?_eq_getElem hl, rfl, hz⟩
theorem sqT_one {X : Cx} {pins : List (Addr × Obj)} {σ : L2.St} {H : Hp} {s : Shared} (I : L2.Inv X pins σ H s) {z : Addr} {i i' : Int} {a a' : Str} (h1 : SqT X.K H z [.int i, .str a]) (h2 : SqT X.K H z [.int i', .str a']) : i = i' := by
  obtain ⟨its, r, ⟨o, ho, hc, n, hd⟩, _⟩ := I.tuple h1
  obtain ⟨its', r', ⟨o', ho', hc', n', hd'⟩, _⟩ := I.tuple h2
  rw [ho] at ho'
  cases ho'
  rw [hd] at hd'
  obtain ⟨u1, u2, rfl, ri, rj⟩ := vals2 r
  obtain ⟨w1, w2, rfl, ri', rj'⟩ := vals2 r'
  obtain ⟨t1, rfl⟩ := ri
  obtain ⟨t2, rfl⟩ := ri'
  have ed : (#[Value.int i t1, u2] : Array Value) = #[Value.int i' t2, w2] := by injection hd'
  simp only [Array.mk.injEq, List.cons.injEq, Value.int.injEq, and_true] at ed
  exact ed.1.1
theorem sort_ok : CallS C (.builtin "sorted") sortW := by
  rintro X hX pins s σ H xs us Q I r ⟨G, ds, Ψ, kn, ra, ⟨ps, e, nd, hΨ⟩, q⟩
  subst e
  have eK : C.K = X.K := by obtain ⟨k, nm, rfl, hO, hK⟩ := hX; rfl
  rw [eK] at ra q
  obtain ⟨x, rfl, rx⟩ := rpa1 ra
  simp only [Rp] at rx
  obtain ⟨z, ys, rfl, hz, hy⟩ := rx
  classical
  let key : V → Int := fun x => if h : ∃ i z s, x = V.ref z ∧ SqT X.K H z [.int i, .str s] then h.choose else 0
  have hkey : ∀ x z i a, x = V.ref z → SqT X.K H z [.int i, .str a] → key x = i := by
    rintro x z i a rfl h
    have hh : ∃ i z' s, V.ref z = V.ref z' ∧ SqT X.K H z' [.int i, .str s] := ⟨i, z, a, rfl, h⟩
    show (if h : ∃ i z' s, V.ref z = V.ref z' ∧ SqT X.K H z' [.int i, .str s] then h.choose else 0) = i
    rw [dif_pos hh]
    obtain ⟨z', s', e, h2⟩ := hh.choose_spec
    cases e
    exact sqT_one I h2 h
  refine SrtP.cr_sortIS pins s σ H _ us Q I r ⟨z, ys, key, rfl, SqL.of (kn _ _ hz), fun x m => ?_, fun x mx y my ek => ?_, fun ys2 p hp ho hpn => ?_⟩
  · obtain ⟨j, pp, z2, _, _, rfl, h2⟩ := isD_at hy m
    have h3 := Kn.sqT kn h2
    exact ⟨z2, pp.2, rfl, by rw [hkey _ z2 _ _ rfl h3]; exact h3⟩
  · obtain ⟨j, pp, z2, a1, a2, rfl, h2⟩ := isD_at hy mx
    obtain ⟨j', pp', z2', a1', a2', rfl, h2'⟩ := isD_at hy my
    rw [hkey _ z2 _ _ rfl (Kn.sqT kn h2), hkey _ z2' _ _ rfl (Kn.sqT kn h2')] at ek
    have b1 : (ps.map (·.1))[j]? = some pp.1 := by rw [List.getElem?_map, a2]; rfl
    have b2 : (ps.map (·.1))[j']? = some pp.1 := by rw [List.getElem?_map, a2', ek]; rfl
    have hjl : j < (ps.map (·.1)).length := (List.getElem?_eq_some_iff.mp b1).1
    obtain rfl : j = j' := (List.getElem?_inj hjl nd).mp (b1.trans b2.symm)
    rw [a1] at a1'
    exact Option.some.inj a1'
  · obtain ⟨es, pe, re⟩ := hy.perm hp
    have hs := isD_sorted re (key := key) (fun x m z i a e h => hkey x z i a e (Kn.sqT kn h)) ho
    have g2 : Grow noFoot noFoot G H (upd G p (.lst ys2)) (upd H p (.lst ys2)) := Grow.new kn hpn
    exact q _ (.ref p) _ _ (hΨ es pe hs) g2 (by simp only [Rp]; exact ⟨p, ys2, rfl, upd_same, re.mono g2.gg⟩)
end
theorem bb_sorted : bootBuiltins "sorted" = some (.builtin "sorted") := by decide +kernel
/-! ### t[::-1], a pair -/
section
variable {C : SC} {A : Amb} {E : NE} {u : A.U} {P : Post A} {pos p p2 p3 p4 q1 q2 apos spos cpos : Pos} {e a b o : Expr} {Φ : D → A.U → Prop}
theorem own_fresh {G0 : Beg} {H0 G H : Hp} {σ : L2.St} {q : Addr} (he : Env C A G0 H0 u G H E σ) (hq : H q = none) : ∀ (y : Str) (s : Sl) (a : Addr), (y, s) ∈ E → s.isOwn → (∀ j : Nat, C.N[j]? = some y → σ[j]? = some (some (.ref a))) → a ≠ q := by
  intro y s a m o ha e
  subst e
  obtain ⟨α, e1, _⟩ := he.ent
  obtain ⟨j, f1, f2⟩ := e1 y s m
  have hj := ha j f1
  have key : ∀ {o : HO}, σ[j]? = some (some (V.ref (α y))) → H (α y) = some o → False := fun {o} w1 w2 => by
    rw [hj] at w1
    have w3 := Option.some.inj (Option.some.inj w1)
    have w4 : a = α y := by injection w3
    rw [← w4, hq] at w2
    cases w2
  cases s with
  | own _ => obtain ⟨w1, _, _, _, _, w2, _⟩ := f2; exact key w1 w2
  | ownD _ => obtain ⟨w1, _, _, _, _, w2, _⟩ := f2; exact key w1 w2
  | ownX _ => obtain ⟨w1, _, _, _, _, w2, _⟩ := f2; exact key w1 w2
  | _ => exact o.elim
/-- a, b = two new lists of one's own -/
theorem s_parNN [hh : Cold C] {x y : Str} {px py pt pt2 : Pos} {kt k2} {F : Sl → NE} {F2 : Sl → Sl → NE} (hx : Spl E x F) (hy : ∀ s, Spl (F s) y (F2 s)) (nx : Nm C.nm x .local) (ny : Nm C.nm y .local)
    (h : EvN C A a E u fun l1 u1 => EvN C A b E u1 fun l u2 => P.nx (F2 (.own l1) (.own l)) u2)
    (hst : ∀ env, starEach [a, b] env = (false, eval a env) :: starEach [b] env := by intro _; rfl) (hst2 : ∀ env, starEach [b] env = [(false, eval b env)] := by intro _; rfl)
    (hp : px.line = py.line := by rfl) (hxy : x ≠ y := by decide +kernel) (ha : plainV a = true := by rfl) (hb : plainV b = true := by rfl) (f1 : [a, b].all (foldedForSure 8) = false := by rfl) (f2 : [a, b].all (constantsAlone 8) = false := by rfl)
    (hs : ∀ env, swapsWithSole [.Tuple [.Name x px, .Name y py] kt pt] (.Tuple [a, b] k2 pt2) pos.line env = pure false := by intro _; rfl) : StK C A (.Assign [.Tuple [.Name x px, .Name y py] kt pt] (.Tuple [a, b] k2 pt2) pos) E u P := by
  intro G0 H0 G H σ Ds he S X pins s hX I
  obtain ⟨k, nm, rfl, hO, hK⟩ := id hX
  obtain ⟨i, hi⟩ := he.ix hx
  have lx := nx.isLoc hO
  have ly := ny.isLoc hO
  obtain ⟨j, hj⟩ : ∃ j : Nat, X.N[j]? = some y := by
    obtain ⟨h1, h2, ⟨t, h3⟩, h4⟩ := (hy .un).spec .un
    rcases (hx.spec .un).2.2.2 _ h3 with e | e
    · exact absurd (Prod.mk.inj e).1.symm hxy
    · obtain ⟨α, e1, _⟩ := he.ent
      obtain ⟨j, h, _⟩ := e1 y t e
      exact ⟨j, h⟩
  have hij : i ≠ j := fun z => by subst z; exact hxy (Option.some.inj (hi.symm.trans hj))
  refine (ps_par (i := i) (j := j) (hK.calm hh.h) hK.nd hi hj hij lx ly (pa_cons (pe_of hX a) (pa_cons (pe_of hX b) pa_nil (hst2 X.env)) (hst X.env)) (sw_some lx ly I.ok.kind hp hxy ha hb f1 f2) (hs X.env)).run pins s σ H Ds I ?_
  refine h G0 H0 G H σ he _ fun l1 u1 q1 xs1 G1 H1 p1 g1 st1 a1 a2 a3 a4 r1 => ?_
  refine p1 G0 H0 G1 H1 σ (he.go g1 st1) _ fun l u2 q xs G2 H2 k2 g2 st2 z1 z2 z3 z4 r2 => ?_
  refine ⟨.ref q1, .ref q, rfl, ?_⟩
  have he1 := (he.go g1 st1).go g2 st2
  have keep : H2 q1 = some (.lst xs1) := g2.hh q1 _ a3 a4
  have keepG : G2 q1 = none := by
    cases w : G2 q1 with
    | none => rfl
    | some o =>
      have := g2.fr q1 a2 (by rw [w]; simp)
      rw [a4] at this
      cases this
  have hx0 : H0 q1 = none := by
    cases w : H0 q1 with
    | none => rfl
    | some o => exact absurd a1 (he.gr.th q1 (by rw [w]; simp))
  have hH0 : H0 q = none := by
    cases w : H0 q with
    | none => rfl
    | some o => exact absurd z1 ((he.go g1 st1).gr.th q (by rw [w]; simp))
  have he2 := he1.putOwn hx hi I.len hK.nd keepG hx0 (g2.nf a3 a4) keep (r1.mono g2.gg) fun y s a m _ o ha => own_fresh he a1 y s a m o ha
  refine S.nx _ u2 G2 H2 _ k2 (he2.putOwn (hy (.own l1)) hj (by rw [List.length_set]; exact I.len) hK.nd z2 hH0 z3 z4 r2 ?_)
  intro z t ad m ne o hz
  have ne12 : q1 ≠ q := fun e => by subst e; rw [a4] at z1; cases z1
  by_cases zx : z = x
  · subst zx
    have hv := hz i hi
    rw [List.getElem?_set_self (by rw [I.len]; exact (List.getElem?_eq_some_iff.mp hi).1)] at hv
    have w3 := Option.some.inj (Option.some.inj hv)
    have w4 : q1 = ad := by injection w3
    rw [← w4]
    exact ne12
  · rcases (hx.spec (.own l1)).2.2.2 _ m with w | w
    · exact absurd (Prod.mk.inj w).1 zx
    · refine own_fresh (he.go g1 st1) z1 z t ad w o fun n hn => ?_
      have := hz n hn
      rwa [List.getElem?_set_ne (fun e => zx (by subst e; exact Option.some.inj (hn.symm.trans hi)))] at this
end
end L3
namespace L3
open PySem PySem.Spec PyProof.Rows L2
/-! ### a, b = a list of two -/
section
variable {C : SC} {A : Amb} {E : NE} {u : A.U} {pos p : Pos} {Θ : NE → Prop} {xs : List Str}
theorem tg_lst [hh : Cold C] {ts : List Expr} {j : Nat} {ds : List D} (h : TgsK C A ts ds E u xs Θ) (hl : ds.length = ts.length) (hn : ∀ env, (assignEach ts env).length = ts.length := by intro _; rfl) (hst : ∀ env, (assignEach ts env).findIdx? (·.1) = none := by intro _; rfl) :
    TgK C A (.Tuple ts j pos) (.lst ds) E u xs Θ := by
  intro G0 H0 G H σ v he r Q k X pins s w hX I rw'
  obtain ⟨n, nm, e, hO, hK⟩ := id hX
  simp only [Rp] at r
  obtain ⟨ad, vs, rfl, r1, r2⟩ := r
  refine (pg_unl (n := ts.length) (hK.calm (by have z := hh.h; rw [e] at z; exact z)) (t := fun vs σ H Q => ∀ pins s us, Inv X pins σ H s → Vals vs us → wpAny (model X.prog X.w) X.A (assignInOrder ((assignEach ts X.env).map (·.2)) us) (fun _ s' => ∃ σ' H', Inv X pins σ' H' s' ∧ Q σ' H') X.xe s)
    ⟨fun pins s σ H vs us Q I r q => q pins s us I r⟩ (hn X.env) (hst X.env)).run pins s σ H _ w Q I rw' ⟨ad, vs, rfl, ?_, by rw [r2.len]; exact hl, fun pins' s' us I' r' => ?_⟩
  · exact SqL.of (he.kn _ _ r1)
  · exact h G0 H0 G H σ vs he r2 Q k X pins' s' us hX I' r'
theorem tg_twoL [hh : Cold C] {a b : Expr} {j : Nat} {d1 d2 : D} {xs ys : List Str} (h : TgK C A a d1 E u xs fun E1 => TgK C A b d2 E1 u ys Θ)
    (hc : ∀ X, Has C X → ∀ (g : TG) (gs : TGs), PG X a g → PGs X [b] gs → PGs X [a, b] (gCons g gs) := by intro _ _ _ _ h1 h2; exact pgs_cons h1 h2) (hc2 : ∀ X, Has C X → ∀ (g : TG) (gs : TGs), PG X b g → PGs X [] gs → PGs X [b] (gCons g gs) := by intro _ _ _ _ h1 h2; exact pgs_cons h1 h2)
    (hn : ∀ env, (assignEach [a, b] env).length = 2 := by intro _; rfl) (hst : ∀ env, (assignEach [a, b] env).findIdx? (·.1) = none := by intro _; rfl) : TgK C A (.Tuple [a, b] j pos) (.lst [d1, d2]) E u (xs ++ (ys ++ [])) Θ := by
  refine tg_lst (tgs_cons ?_ hc) rfl hn hst
  intro G0 H0 G H σ v he r Q k
  refine h G0 H0 G H σ v he r Q fun E1 σ1 q1 he1 o1 => k E1 σ1 ?_ he1 o1
  refine tgs_cons ?_ hc2
  intro G0 H0 G H σ v he r Q k
  exact q1 G0 H0 G H σ v he r Q fun E2 σ2 q2 he2 o2 => k E2 σ2 (tgs_nil q2) he2 o2
end
/-! ### values of dicts that were put -/
end L3
namespace L3
open PySem PySem.Spec PyProof.Rows L2
/-! ### isinstance, a < b < c, == [] -/
def tyN : D → Option String
  | .non => some "NoneType"
  | .bl _ => some "bool"
  | .int _ => some "int"
  | .str _ => some "str"
  | .tup _ => some "tuple"
  | .lst _ => some "list"
  | .dct _ => some "dict"
  | _ => none
theorem tyN_at {K : PySem.W.Frag} {G H : Hp} (kn : Kn G H) {d : D} {v : V} {T : String} (r : Rp K G d v) (e : tyN d = some T) : TyX K H v (.type T) := by
  cases d <;> simp only [tyN, Option.some.injEq, reduceCtorEq] at e <;> subst e <;> simp only [Rp] at r
  · subst r; exact .base .non
  · subst r; exact .base (.bl _)
  · subst r; exact .base (.int _)
  · subst r; exact .base (.str _)
  · obtain ⟨a, xs, rfl, h, _⟩ := r
    exact .base (.lst (kn _ _ h))
  · obtain ⟨a, xs, rfl, h, _⟩ := r
    rcases Kn.sqT kn h with (h | ⟨o, h⟩) | ⟨o, its, n, h1, h2, _⟩
    · exact .base (.tup h)
    · exact .fTuple h
    · exact .kTuple h1 h2
  · obtain ⟨a, xs, rfl, h, _⟩ := r
    exact .base (.dK (kn _ _ h))
def isiW (ds : List D) (Ψ : D → Prop) : Prop := ∃ (d : D) (T T0 : String) (b : Bool), ds = [d, .ty T] ∧ tyN d = some T0 ∧ kitB T0 T = some b ∧ Ψ (.bl b)
section
variable {C : SC} {A : Amb} {E : NE} {u : A.U} {P : Post A} {pos p : Pos} {a b c e : Expr} {Φ : D → A.U → Prop} {Ψ : Bool → A.U → Prop}
theorem isi_ok : CallS C (.builtin "isinstance") isiW := by
  rintro X hX pins s σ H xs us Q I r ⟨G, ds, Ψ, kn, ra, ⟨d, T, T0, b, e, e1, e2, p⟩, q⟩
  subst e
  have eK : C.K = X.K := by obtain ⟨k, nm, rfl, hO, hK⟩ := hX; rfl
  rw [eK] at ra q
  rw [RpA.cons_iff] at ra
  obtain ⟨x, r', rfl, h1, h2⟩ := ra
  obtain ⟨y, rfl, h3⟩ := rpa1 h2
  simp only [Rp] at h3
  subst h3
  exact call_isi pins s σ H _ us Q I r ⟨x, .ty T, .type T0, .type T, b, rfl, .ty T, tyN_at kn h1 e1, kit_ty e2, q (.bl b) (.bl b) G H p (Grow.refl kn) (by simp only [Rp])⟩
theorem bb_isinstance : bootBuiltins "isinstance" = some (.builtin "isinstance") := by decide +kernel
theorem t_chain {op op' : CmpOp} {f f' : D → D → (Bool → Prop) → Prop} (hs : OpS C (compareOp op) (toB f)) (hs' : OpS C (compareOp op') (toB f'))
    (h : EvK C A a E u fun da u1 => EvK C A b E u1 fun db u2 => f da db fun k => Br k (EvK C A c E u2 fun dc u3 => f' db dc fun k' => Ψ k' u3) (Ψ false u2))
    (hm : lastMarks [op, op'] [b, c] = false := by with_unfolding_all rfl) : EvT C A (.Compare a [op, op'] [b, c] pos) E u Ψ := by
  refine EvT.of (tTest (tChain (rD C.K (toB f)) (rD C.K (toB f')) (rE C a) (rE C b) (rE C c))) (fun X hX => pt_chain (hs X hX) (hs' X hX) (pe_of hX a) (pe_of hX b) (pe_of hX c) hm) fun G0 H0 G H σ he Q q => ?_
  refine h G0 H0 G H σ he _ fun da u1 v G1 H1 p1 g1 st1 r1 => ?_
  refine p1 G0 H0 G1 H1 σ (he.go g1 st1) _ fun db u2 v2 G2 H2 p2 g2 st2 r2 => ?_
  refine ⟨G2, da, db, fun d => match d with | .bl k => Br k (EvK C A c E u2 fun dc u3 => f' db dc fun k' => Ψ k' u3) (Ψ false u2) | _ => False, g2.gh, r1.mono g2.gg, r2, p2, fun d v3 G3 H3 hd g3 r3 => ?_⟩
  cases d with
  | bl k =>
    simp only [Rp] at r3
    subst r3
    refine ⟨k, rfl, ?_⟩
    have st3 := A.grow st2 g3
    have he3 := ((he.go g1 st1).go g2 st2).go g3.weak st3
    cases k with
    | false =>
      rw [if_neg (by decide)]
      exact ⟨false, rfl, q false u2 G3 H3 (hd.2 rfl) ((g1.trans g2).trans g3.weak) st3⟩
    | true =>
      rw [if_pos rfl]
      refine hd.1 rfl G0 H0 G3 H3 σ he3 _ fun dc u3 v4 G4 H4 p4 g4 st4 r4 => ?_
      refine ⟨G4, db, dc, fun d => match d with | .bl k => Ψ k u3 | _ => False, g4.gh, (r2.mono g3.gg).mono g4.gg, r4, p4, fun d v5 G5 H5 hd5 g5 r5 => ?_⟩
      cases d with
      | bl k =>
        simp only [Rp] at r5
        subst r5
        exact ⟨k, rfl, q k u3 G5 H5 hd5 ((((g1.trans g2).trans g3.weak).trans g4).trans g5.weak) (A.grow st4 g5)⟩
      | _ => exact hd5.elim
  | _ => exact hd.elim
theorem k_chain {op op' : CmpOp} {f f' : D → D → (Bool → Prop) → Prop} (hs : OpS C (compareOp op) (toB f)) (hs' : OpS C (compareOp op') (toB f'))
    (h : EvK C A a E u fun da u1 => EvK C A b E u1 fun db u2 => f da db fun k => Br k (EvK C A c E u2 fun dc u3 => f' db dc fun k' => Φ (.bl k') u3) (Φ (.bl false) u2))
    (hm : lastMarks [op, op'] [b, c] = false := by with_unfolding_all rfl) : EvK C A (.Compare a [op, op'] [b, c] pos) E u Φ := by
  refine EvK.of (tChain (rD C.K (toB f)) (rD C.K (toB f')) (rE C a) (rE C b) (rE C c)) (fun X hX => pe_chain (hs X hX) (hs' X hX) (pe_of hX a) (pe_of hX b) (pe_of hX c) hm) fun G0 H0 G H σ he Q q => ?_
  refine h G0 H0 G H σ he _ fun da u1 v G1 H1 p1 g1 st1 r1 => ?_
  refine p1 G0 H0 G1 H1 σ (he.go g1 st1) _ fun db u2 v2 G2 H2 p2 g2 st2 r2 => ?_
  refine ⟨G2, da, db, fun d => match d with | .bl k => Br k (EvK C A c E u2 fun dc u3 => f' db dc fun k' => Φ (.bl k') u3) (Φ (.bl false) u2) | _ => False, g2.gh, r1.mono g2.gg, r2, p2, fun d v3 G3 H3 hd g3 r3 => ?_⟩
  cases d with
  | bl k =>
    simp only [Rp] at r3
    subst r3
    refine ⟨k, rfl, ?_⟩
    have st3 := A.grow st2 g3
    have he3 := ((he.go g1 st1).go g2 st2).go g3.weak st3
    cases k with
    | false =>
      rw [if_neg (by decide)]
      exact q (.bl false) u2 _ G3 H3 (hd.2 rfl) ((g1.trans g2).trans g3.weak) st3 (by simp only [Rp])
    | true =>
      rw [if_pos rfl]
      refine hd.1 rfl G0 H0 G3 H3 σ he3 _ fun dc u3 v4 G4 H4 p4 g4 st4 r4 => ?_
      refine ⟨G4, db, dc, fun d => match d with | .bl k => Φ (.bl k) u3 | _ => False, g4.gh, (r2.mono g3.gg).mono g4.gg, r4, p4, fun d v5 G5 H5 hd5 g5 r5 => ?_⟩
      cases d with
      | bl k => exact q (.bl k) u3 v5 G5 H5 hd5 ((((g1.trans g2).trans g3.weak).trans g4).trans g5.weak) (A.grow st4 g5) r5
      | _ => exact hd5.elim
  | _ => exact hd.elim
/-- a list with the empty one -/
def eqE (x y : D) (Ψ : Bool → Prop) : Prop := ∃ l, x = .lst l ∧ y = .lst [] ∧ Ψ l.isEmpty
def neE (x y : D) (Ψ : Bool → Prop) : Prop := ∃ l, x = .lst l ∧ y = .lst [] ∧ Ψ (!l.isEmpty)
theorem eqE_ok : OpS C (compareOp .Eq) (toB eqE) := by
  rintro X ⟨k, nm, rfl, hO, hK⟩ pins s σ H x y v u Q I rx ry ⟨G, da, db, Ψ, kn, ra, rb, ⟨l, rfl, rfl, p⟩, q⟩
  have hu := Has.hu hK
  simp only [Rp] at ra rb
  obtain ⟨z1, xs, rfl, h1, r1⟩ := ra
  obtain ⟨z2, ys, rfl, h2, r2⟩ := rb
  rw [RpA.nil_iff] at r2
  subst r2
  obtain rfl : v = Value.ref z1 := rx
  obtain rfl : u = Value.ref z2 := ry
  obtain ⟨i1, rv1, p1, _⟩ := I.list (SqL.of (kn _ _ h1))
  obtain ⟨i2, rv2, p2, _⟩ := I.list (SqL.of (kn _ _ h2))
  cases rv2
  have fin : ∀ b : Bool, b = l.isEmpty → EP X pins σ Q (.bool b) s := fun b e => ⟨V.bl b, H, I, rfl, q (.bl b) (.bl b) G H (by rw [e]; exact p) (Grow.refl kn) (by simp only [Rp])⟩
  cases l with
  | nil =>
    rw [RpA.nil_iff] at r1
    subst r1
    cases rv1
    exact SeqAt.eq_listAt (e := fun _ => true) p1.isList p2.isList rfl (by omega) (fun j h => absurd h (Nat.not_lt_zero _)) (fin _ rfl)
  | cons d l =>
    have e1 := r1.len
    have e2 := rv1.length
    refine SeqAt.eq_list_lengthsAt p1.isList p2.isList ?_ (by omega) (fin _ rfl)
    have : i1.length = l.length + 1 := by rw [← e2, e1, List.length_cons]
    simp [this]
theorem neE_ok : OpS C (compareOp .NotEq) (toB neE) := by
  rintro X ⟨k, nm, rfl, hO, hK⟩ pins s σ H x y v u Q I rx ry ⟨G, da, db, Ψ, kn, ra, rb, ⟨l, rfl, rfl, p⟩, q⟩
  have hu := Has.hu hK
  simp only [Rp] at ra rb
  obtain ⟨z1, xs, rfl, h1, r1⟩ := ra
  obtain ⟨z2, ys, rfl, h2, r2⟩ := rb
  rw [RpA.nil_iff] at r2
  subst r2
  obtain rfl : v = Value.ref z1 := rx
  obtain rfl : u = Value.ref z2 := ry
  obtain ⟨i1, rv1, p1, _⟩ := I.list (SqL.of (kn _ _ h1))
  obtain ⟨i2, rv2, p2, _⟩ := I.list (SqL.of (kn _ _ h2))
  cases rv2
  have fin : ∀ b : Bool, b = (!l.isEmpty) → EP X pins σ Q (.bool b) s := fun b e => ⟨V.bl b, H, I, rfl, q (.bl b) (.bl b) G H (by rw [e]; exact p) (Grow.refl kn) (by simp only [Rp])⟩
  cases l with
  | nil =>
    rw [RpA.nil_iff] at r1
    subst r1
    cases rv1
    exact SeqAt.RcNeAt.lists (e := fun _ => true) p1.isList p2.isList rfl (by omega) (fun j h => absurd h (Nat.not_lt_zero _)) _ _ _ _ (fin _ rfl)
  | cons d l =>
    have e1 := r1.len
    have e2 := rv1.length
    refine SeqAt.RcNeAt.lists_lengths p1.isList p2.isList ?_ (by omega) _ _ _ _ (fin _ rfl)
    have : i1.length = l.length + 1 := by rw [← e2, e1, List.length_cons]
    simp [this]
end
end L3
namespace ZX
open PySem PySem.AutoSeq1
open PySem.Sem (wp)
theorem list_extend_tupG (l : Addr) (items : Array Value) (n : Nat) (b : Addr) (items2 : Array Value) (n2 : Nat) (dd : Option Addr) (sl : Array (Option Value)) (hs0 : ¬(!items.isEmpty && Builtin.List.listTooLong (items.size + items2.size)) = true) (hs1 : items.size ≤ sizeLine) (hs2 : items.size + items2.size ≤ sizeLine + 1) :
    Meets (Builtin.«list.extend» ⟨[.ref l, .ref b], []⟩) (fun _ R s => s.heap.get? l = some { cls := .type "list", dict := none, data := .seq items n, slots := #[] } ∧ s.heap.get? b = some { cls := .type "tuple", dict := dd, data := .seq items2 n2, slots := sl } ∧ R (.ok (.ret Value.none)) { s with heap := s.heap.update l (Obj.mapSeq fun x => x ++ items2), toks := s.toks }) :=
  .of_wp fun prog w A R s h => by
    obtain ⟨hp, g, d, tk, os⟩ := s; obtain ⟨hl, hb, h⟩ := h
    have hz' : (items ++ items2).size ≤ sizeLine + 1 := by rw [Array.size_append]; exact hs2
    wp_walk using (wpAny_updateSeq hl rfl (hz := hs1) (_hz' := hz')); exact ⟨_, rfl, h⟩
end ZX
namespace L3
open PySem PySem.Spec PyProof.Rows L2
theorem bb_str : bootBuiltins "str" = some (.type "str") := by decide +kernel
theorem bb_bool : bootBuiltins "bool" = some (.type "bool") := by decide +kernel
/-! ### x.extend(a tuple) -/
def rExtT (K : PySem.W.Frag) : V → List V → Hp → VK → Prop := fun x vs H Q => ∃ l b xs zs, x = .ref l ∧ vs = [.ref b] ∧ H l = some (.lst xs) ∧ SqT K H b zs ∧ xs.length + zs.length ≤ sizeLine ∧ Q .non (upd H l (.lst (xs ++ zs)))
theorem mt_extT {X : Cx} : MtM X "list.extend" (rExtT X.K) := by
  intro pins s σ H x vs v us Q I rx rv h
  obtain ⟨l, b, xs, zs, rfl, rfl, hH, hB, hz, q⟩ := h
  cases rx
  obtain ⟨u, rfl, ru⟩ := rv.one
  cases ru
  obtain ⟨z, its, n, r, hl, e⟩ := I.lstM hH
  obtain ⟨its2, r2, ⟨⟨oc, od, dt, sl⟩, ho, hc, n2, hd⟩, _⟩ := I.tuple hB
  simp only at hc hd
  subst hc hd
  have hl2 := r2.length
  have hsz : its.toArray.size + its2.toArray.size ≤ sizeLine := by rw [List.size_toArray, List.size_toArray]; omega
  have hlong : ¬ (!its.toArray.isEmpty && Builtin.List.listTooLong (its.toArray.size + its2.toArray.size)) = true := by
    rw [notLongL hsz, Bool.and_false]
    exact Bool.false_ne_true
  refine call_meets F.slot_list_extend ⟨_, e, rfl⟩ F.entry_list_extend (F.args_list_extend_2 _ _)
    (ZX.list_extend_tupG l its.toArray n b its2.toArray n2 _ _ hlong (by rw [List.size_toArray]; omega) (by omega)) ⟨e, ho, ?_⟩
  refine ⟨.non, _, I.lset (its' := its ++ its2) hH e (by simp) (r.append r2) ?_, rfl, q⟩
  rw [List.length_append]
  omega
section
variable {C : SC} {A : Amb} {E : NE} {u : A.U} {pos p apos spos p2 : Pos} {e a : Expr} {P : Post A}
/-- x.extend(a tuple) -/
theorem s_extT {x : Str} {F : Sl → NE} {l : List D} {kd : NameKind} (hp : Spl E x F) (hm : At E x (.own l)) (hn : Nm C.nm x kd) (hv : VisK kd) (h : EvK C A e E u fun d u' => ∃ ds, d = .tup ds ∧ l.length + ds.length ≤ sizeLine ∧ P.nx (F (.own (l ++ ds))) u')
    (hs : ∀ env, starEach [e] env = [(false, eval e env)] := by intro _; rfl) (hl : (apos.endLine == pos.line) = true := by rfl) (hd : (x == ("__debug__" : Str)) = false := by decide +kernel) (hc : (x == ("__classdict__" : Str)) = false := by decide +kernel)
    (hb : ∀ env, attributeBase (.Name x p) "extend" env (eval (.Name x p) env) = eval (.Name x p) env := by intro _; rfl)
    (hw : ∀ env, swapsWith (.Call (.Attribute (.Name x p) "extend" apos) [e] [] pos) none spos.line env = pure false := by intro _; rfl) :
    StK C A (.Expr (.Call (.Attribute (.Name x p) "extend" apos) [e] [] pos) spos) E u P := by
  intro G0 H0 G H σ Ds he S X pins s hX I
  obtain ⟨i, pv, hi⟩ := own_var (p := p) hX he hm hn hv hd hc
  refine (ps_expr (pe_bm PySem.F.plainAttrs_list PySem.F.slot_list_extend PySem.F.type_list_extend mt_extT pv (pa_cons (pe_of hX e) pa_nil (hs X.env)) (hb X.env) (by rw [hs X.env]; rfl) hl (hs X.env) rfl) (hw X.env)).run pins s σ H Ds I ?_
  obtain ⟨i', q, xs, hi', hσ, hH, hr, _, _⟩ := he.chg hp hm
  obtain ⟨j, nm, rfl, hO, hK⟩ := id hX
  obtain rfl : i = i' := nodup_ix hK.nd hi hi'
  refine ⟨.ref q, hσ, .inl ⟨rfl, xs, .inl (.inl hH)⟩, ?_⟩
  refine h G0 H0 G H σ he _ fun d u' v G' H' ⟨ds, ed, hz, k⟩ g st r => ?_
  subst ed
  have he' := he.go g st
  obtain ⟨i2, q2, xs2, hi2, hσ2, hH2, hr2, ch, _⟩ := he'.chg hp hm
  obtain rfl : i = i2 := nodup_ix hK.nd hi hi2
  obtain rfl : q = q2 := by rw [hσ] at hσ2; cases hσ2; rfl
  simp only [Rp] at r
  obtain ⟨b, ys, rfl, z4, r⟩ := r
  refine ⟨q, b, xs2, ys, rfl, rfl, hH2, Kn.sqT g.gh z4, by rw [hr2.len, r.len]; exact hz, ?_⟩
  exact S.nx _ u' G' _ σ k (ch _ _ (hr2.append r))
end
end L3
namespace L3
open PySem PySem.Spec PyProof.Rows L2
/-! ### an own list lent: for the time of one expression it is a datum -/
end L3
namespace L3
open PySem PySem.Spec PyProof.Rows L2
/-! ### dict displays as data; three stored at once; lists put together, new -/
section
variable {C : SC} {A : Amb} {E : NE} {u : A.U} {P : Post A} {pos p p2 q1 q2 : Pos} {e a b c : Expr} {Φ : D → A.U → Prop} {Θ : List D → A.U → Prop}
theorem k_dnil (q : Φ (.dct []) u) : EvK C A (.Dict [] [] pos) E u Φ := by
  refine EvK.of _ (fun X hX => pe_dnewK) fun G0 H0 G H σ he Q k => ?_
  intro z hz
  have g2 : Grow noFoot noFoot G H (upd G z (.dK [])) (upd H z (.dK [])) := Grow.new he.kn hz
  exact k _ u _ _ _ q g2.weak (A.grow he.st g2) (by simp only [Rp]; exact ⟨z, [], rfl, upd_same, by simp only [RpK]⟩)
/-- {"..": e} -/
theorem k_disp1 {s : Str} {j : Nat} (h : EvK C A e E u fun d u' => Φ (.dct [(.inr s, d)]) u') : EvK C A (.Dict [some (.Constant (.str s) j p)] [e] pos) E u Φ := by
  refine EvK.of _ (fun X hX => pe_disp (pps_cons pe_str (pe_of hX e) pps_nil) rfl rfl (by simp) (Nat.le_of_ble_eq_true rfl)) fun G0 H0 G H σ he Q k => ?_
  intro z hz
  have g1 : Grow noFoot noFoot G H G (upd H z (.dK [])) := Grow.own he.kn hz
  have st1 := A.grow he.st g1
  have hf : ¬ A.foot u z := fun f => A.there _ _ _ he.st z f hz
  refine h G0 H0 G _ σ (he.go g1.weak st1) _ fun d u' v G2 H2 q g2 st2 r2 => ?_
  have hz2 : H2 z = some (.dK []) := g2.hh z _ hf upd_same
  have hf2 : ¬ A.foot u' z := g2.nf hf upd_same
  have gz : G z = none := he.kn.back hz
  have gz2 : G2 z = none := by
    cases w : G2 z with
    | none => rfl
    | some o =>
      have := g2.fr z gz (by rw [w]; simp)
      rw [upd_same] at this
      cases this
  refine ⟨hz2, [(.inr s, v)], rfl, Nat.le_of_ble_eq_true rfl, ?_⟩
  have em : mergeK ([] : List (Key × V)) [(.inr s, v)] = [(.inr s, v)] := rfl
  rw [em]
  have kn := Kn.new (G := G2) (p := z) (o := .dK [(.inr s, v)]) gz2
  refine k _ u' _ (upd G2 z (.dK [(.inr s, v)])) _ q ⟨g2.gg.trans kn, fun a o w => ?_, fun a o f w => ?_, fun a w => ?_, fun a w n => ?_, fun a f => ?_⟩ (A.stay u' G2 H2 _ _ st2 kn (fun a o f w => ?_) fun a f w => ?_) ?_
  · by_cases e : a = z
    · subst e; rw [upd_same] at w ⊢; exact w
    · rw [upd_ne e] at w ⊢; exact g2.gh a o w
  · have e : a ≠ z := ne_of_none w hz
    rw [upd_ne e]
    exact g2.hh a o f (by rw [upd_ne e]; exact w)
  · by_cases e : a = z
    · subst e; rw [upd_same]; simp
    · rw [upd_ne e]; exact g2.th a (by rw [upd_ne e]; exact w)
  · by_cases e : a = z
    · rw [e]; exact hz
    · rw [upd_ne e] at n
      have := g2.fr a w n
      rwa [upd_ne e] at this
  · by_cases e : a = z
    · rw [e]; exact .inr hz
    · rcases g2.ff a f with w | w
      · exact .inl w
      · rw [upd_ne e] at w; exact .inr w
  · rw [upd_ne (show a ≠ z from fun e => hf2 (by rw [← e]; exact f))]; exact w
  · rw [upd_ne (show a ≠ z from fun e => hf2 (by rw [← e]; exact f))]; exact w
  · simp only [Rp]
    exact ⟨z, _, rfl, upd_same, by simp only [RpK]; exact ⟨v, [], rfl, r2.mono kn, rfl⟩⟩
/-- two lists put together, new -/
theorem n_cat (h : EvK C A a E u fun da u1 => ∃ l, da = .lst l ∧ EvK C A b E u1 fun db u2 => ∃ m, db = .lst m ∧ l.length + m.length ≤ sizeLine ∧ Θ (l ++ m) u2) : EvN C A (.BinOp a .Add b pos) E u Θ := by
  refine EvN.of (tOp rCat (rE C a) (rE C b)) (fun X hX => pe_op op_cat (pe_of hX a) (pe_of hX b)) fun G0 H0 G H σ he Q q => ?_
  refine h G0 H0 G H σ he _ fun da u1 v1 G1 H1 ⟨l, e1, k1⟩ g1 st1 r1 => ?_
  subst e1
  refine k1 G0 H0 G1 H1 σ (he.go g1 st1) _ fun db u2 v2 G2 H2 ⟨m, e2, h3, k2⟩ g2 st2 r2 => ?_
  subst e2
  have r1' := r1.mono g2.gg
  simp only [Rp] at r1' r2
  obtain ⟨q1, xs, rfl, z1, z2⟩ := r1'
  obtain ⟨q2, ys, rfl, y1, y2⟩ := r2
  refine ⟨q1, q2, xs, ys, rfl, rfl, g2.gh _ _ z1, g2.gh _ _ y1, by rw [z2.len, y2.len]; exact h3, fun p hp => ?_⟩
  have g3 : Grow noFoot noFoot G2 H2 G2 (upd H2 p (.lst (xs ++ ys))) := Grow.own g2.gh hp
  have gg := g1.trans g2
  have hH : H p = none := by
    cases w : H p with
    | none => rfl
    | some o => exact absurd hp (gg.th p (by rw [w]; simp))
  exact q _ u2 p _ G2 _ k2 (gg.trans g3.weak) (A.grow st2 g3) hH (g2.gh.back hp) (fun f => A.there _ _ _ st2 p f hp) upd_same (z2.append y2)
/-- an own list and a list put together, new -/
theorem n_catO {x : Str} {F : Sl → NE} {l : List D} {kd : NameKind} (hp : Spl E x F) (hm : At E x (.own l)) (hn : Nm C.nm x kd) (hv : VisK kd) (h : EvK C A b E u fun db u2 => ∃ m, db = .lst m ∧ l.length + m.length ≤ sizeLine ∧ Θ (l ++ m) u2)
    (hd : (x == ("__debug__" : Str)) = false := by decide +kernel) (hc : (x == ("__classdict__" : Str)) = false := by decide +kernel) : EvN C A (.BinOp (.Name x p) .Add b pos) E u Θ := by
  intro G0 H0 G H σ he Q k X pins s hX I
  obtain ⟨i, pv, hi⟩ := own_var (p := p) hX he hm hn hv hd hc
  refine (pe_op op_cat pv (pe_of hX b)).run pins s σ H Q I ?_
  obtain ⟨i', q, xs, hi', hσ, hH, hr, _, _⟩ := he.chg hp hm
  obtain ⟨jj, nm, rfl, hO, hK⟩ := id hX
  obtain rfl : i = i' := nodup_ix hK.nd hi hi'
  refine ⟨.ref q, hσ, ?_⟩
  refine h G0 H0 G H σ he _ fun db u2 v2 G2 H2 ⟨m, e2, h3, k2⟩ g2 st2 r2 => ?_
  subst e2
  have he2 := he.go g2 st2
  obtain ⟨i3, q3, xs2, hi3, hσ2, hH2, hr2, _, _⟩ := he2.chg hp hm
  obtain rfl : i = i3 := nodup_ix hK.nd hi hi3
  obtain rfl : q = q3 := by rw [hσ] at hσ2; cases hσ2; rfl
  simp only [Rp] at r2
  obtain ⟨q2, ys, rfl, y1, y2⟩ := r2
  refine ⟨q, q2, xs2, ys, rfl, rfl, hH2, g2.gh _ _ y1, by rw [hr2.len, y2.len]; exact h3, fun p hp => ?_⟩
  have g3 : Grow noFoot noFoot G2 H2 G2 (upd H2 p (.lst (xs2 ++ ys))) := Grow.own g2.gh hp
  have hH : H p = none := by
    cases w : H p with
    | none => rfl
    | some o => exact absurd hp (g2.th p (by rw [w]; simp))
  exact k _ u2 p _ G2 _ k2 (g2.trans g3.weak) (A.grow st2 g3) hH (g2.gh.back hp) (fun f => A.there _ _ _ st2 p f hp) upd_same (hr2.append y2)
end
theorem three_none (f : Expr → Option Str) (a b c : Expr) (h : f a = none) : ([a, b, c].filterMap f).length ≠ 3 := by
  rw [List.filterMap_cons, h]
  have := List.length_filterMap_le f [b, c]
  simp only [List.length_cons, List.length_nil] at this ⊢
  omega
theorem sw_none3 {X : Cx} {nm : List (Str × NameKind)} (hO : NmAll nm X) {x y z : Str} {px py pz pt : Pos} {kt : Nat} {e : Expr} (h : Nm nm x .cell) : swappedStores [.Tuple [.Name x px, .Name y py, .Name z pz] kt pt] e X.env = pure none := by
  have key : X.env.kindOf x = some .cell := by
    rcases hO.1 x _ h.mem with q | ⟨q, _⟩
    · exact q
    · cases q
  unfold swappedStores
  cases e <;> try rfl
  case Tuple vs k2 p2 =>
    simp only []
    split
    · rfl
    · split
      · rfl
      · split
        · rfl
        · rename_i h3
          refine absurd ?_ h3
          rw [Bool.or_eq_true]
          left
          rw [bne_iff_ne]
          refine three_none _ _ _ _ ?_
          show (if (X.env.kindOf x == some NameKind.local && _) = true then some x else none) = none
          rw [key]
          rfl
section
variable {C : SC} {A : Amb} {E : NE} {u : A.U} {P : Post A} {pos p p2 q1 q2 : Pos} {e a b c : Expr}
/-- a, b, c = a datum and two new lists of one's own; the first name is a cell's -/
theorem s_unp3NN [hh : Cold C] {x y z : Str} {px py pz pt pt2 : Pos} {kt k2} {F : Sl → NE} {F2 : Sl → Sl → NE} {F3 : Sl → Sl → Sl → NE} (hx : Spl E x F) (hy : ∀ s, Spl (F s) y (F2 s)) (hz : ∀ s t, Spl (F2 s t) z (F3 s t)) (nx : Nm C.nm x .cell) (ny : Nm C.nm y .local) (nz : Nm C.nm z .local)
    (h : EvK C A a E u fun d u1 => EvN C A b E u1 fun l1 u2 => EvN C A c E u2 fun l2 u3 => P.nx (F3 (.dat d) (.own l1) (.own l2)) u3)
    (hxy : x ≠ y := by decide +kernel) (hxz : x ≠ z := by decide +kernel) (hyz : y ≠ z := by decide +kernel)
    (hst : ∀ env, starEach [a, b, c] env = (false, eval a env) :: starEach [b, c] env := by intro _; rfl) (hst2 : ∀ env, starEach [b, c] env = (false, eval b env) :: starEach [c] env := by intro _; rfl) (hst3 : ∀ env, starEach [c] env = (false, eval c env) :: starEach [] env := by intro _; rfl)
    (hs : ∀ env, swapsWithSole [.Tuple [.Name x px, .Name y py, .Name z pz] kt pt] (.Tuple [a, b, c] k2 pt2) pos.line env = pure false := by intro _; rfl) : StK C A (.Assign [.Tuple [.Name x px, .Name y py, .Name z pz] kt pt] (.Tuple [a, b, c] k2 pt2) pos) E u P := by
  intro G0 H0 G H σ Ds he S X pins s hX I
  obtain ⟨k, nm, rfl, hO, hK⟩ := id hX
  have ixs : ∀ {w : Str} {F : Sl → NE}, Spl E w F → ∃ i : Nat, X.N[i]? = some w := fun h => he.ix h
  have there : ∀ {w : Str}, (∃ t, (w, t) ∈ E) → ∃ i : Nat, X.N[i]? = some w := fun ⟨t, m⟩ => by
    obtain ⟨α, e1, _⟩ := he.ent
    obtain ⟨j, h, _⟩ := e1 _ t m
    exact ⟨j, h⟩
  obtain ⟨i, hi⟩ := he.ix hx
  obtain ⟨j, hj⟩ : ∃ j : Nat, X.N[j]? = some y := by
    obtain ⟨h1, h2, ⟨t, h3⟩, h4⟩ := (hy .un).spec .un
    rcases (hx.spec .un).2.2.2 _ h3 with e | e
    · exact absurd (Prod.mk.inj e).1.symm hxy
    · exact there ⟨t, e⟩
  obtain ⟨l, hl⟩ : ∃ l : Nat, X.N[l]? = some z := by
    obtain ⟨h1, h2, ⟨t, h3⟩, h4⟩ := (hz .un .un).spec .un
    rcases ((hy .un).spec .un).2.2.2 _ h3 with e | e
    · exact absurd (Prod.mk.inj e).1.symm hyz
    · rcases (hx.spec .un).2.2.2 _ e with e | e
      · exact absurd (Prod.mk.inj e).1.symm hxz
      · exact there ⟨t, e⟩
  refine (ps_asg (pe_tup (pa_cons (pe_of hX a) (pa_cons (pe_of hX b) (pa_cons (pe_of hX c) pa_nil (hst3 X.env)) (hst2 X.env)) (hst X.env))) (pg_tup (hK.calm hh.h) (pgs_cons (pg_name (i := i) hK.nd hi (nx.loc hO .c) (nx.fn hO .c)) (pgs_cons (pg_name (i := j) hK.nd hj (ny.loc hO .l) (ny.fn hO .l)) (pgs_cons (pg_name (i := l) hK.nd hl (nz.loc hO .l) (nz.fn hO .l)) pgs_nil)))) (hs X.env) (sw_none3 hO nx)).run pins s σ H Ds I ?_
  refine h G0 H0 G H σ he _ fun d u1 v G1 H1 p1 g1 st1 r1 => ?_
  have he1 := he.go g1 st1
  refine p1 G0 H0 G1 H1 σ he1 _ fun l1 u2 q1 xs1 G2 H2 p2 g2 st2 a1 a2 a3 a4 ra => ?_
  have he2 := he1.go g2 st2
  refine p2 G0 H0 G2 H2 σ he2 _ fun l2 u3 q2 xs2 G3 H3 p3 g3 st3 b1 b2 b3 b4 rb => ?_
  have he3 := he2.go g3 st3
  refine ⟨by show 3 ≤ sizeLine; decide, fun t ht => ?_⟩
  have g4 : Grow noFoot noFoot G3 H3 G3 (upd H3 t (.tup [v, .ref q1, .ref q2])) := Grow.own g3.gh ht
  have st4 := A.grow st3 g4
  have he4 := he3.go g4.weak st4
  refine ⟨t, [v, .ref q1, .ref q2], rfl, .inl (.inl upd_same), rfl, v, [.ref q1, .ref q2], rfl, .ref q1, [.ref q2], rfl, .ref q2, [], rfl, rfl, ?_⟩
  have h1k : H3 q1 = some (.lst xs1) := g3.hh q1 _ a3 a4
  have t1 : q1 ≠ t := ne_of_none h1k ht
  have t2 : q2 ≠ t := ne_of_none b4 ht
  have k1 : (upd H3 t (.tup [v, .ref q1, .ref q2])) q1 = some (.lst xs1) := by rw [upd_ne t1]; exact h1k
  have k2 : (upd H3 t (.tup [v, .ref q1, .ref q2])) q2 = some (.lst xs2) := by rw [upd_ne t2]; exact b4
  have gq1 : G3 q1 = none := by
    cases w : G3 q1 with
    | none => rfl
    | some o =>
      have := g3.fr q1 a2 (by rw [w]; simp)
      rw [a4] at this
      cases this
  have n0 : ∀ {q : Addr} {Gx Hx : Hp} (hh : Env (stat X k nm) A G0 H0 u Gx Hx E σ), Hx q = none → H0 q = none := fun {q Gx Hx} hh e => by
    cases w : H0 q with
    | none => rfl
    | some o => exact absurd e (hh.gr.th q (by rw [w]; simp))
  have hq10 : H0 q1 = none := by
    cases w : H0 q1 with
    | none => rfl
    | some o => exact absurd a1 (he1.gr.th q1 (by rw [w]; simp))
  have hq20 : H0 q2 = none := by
    cases w : H0 q2 with
    | none => rfl
    | some o => exact absurd b1 (he2.gr.th q2 (by rw [w]; simp))
  have ne12 : q1 ≠ q2 := fun e => by subst e; rw [a4] at b1; cases b1
  have e5 := he4.put hx hi I.len hK.nd (r1.mono (g2.gg.trans g3.gg))
  have e6 := e5.putOwn (hy (.dat d)) hj (by rw [List.length_set]; exact I.len) hK.nd gq1 hq10 (g3.nf a3 a4) k1 (ra.mono g3.gg) ?h1
  have e7 := e6.putOwn (hz (.dat d) (.own l1)) hl (by rw [List.length_set, List.length_set]; exact I.len) hK.nd b2 hq20 b3 k2 rb ?h2
  exact S.nx _ u3 G3 _ _ p3 e7
  case h1 =>
    intro w s ad m ne o hw
    rcases (hx.spec (.dat d)).2.2.2 _ m with e | e
    · obtain ⟨_, e2⟩ := Prod.mk.inj e; rw [e2] at o; exact o.elim
    · have wx : w ≠ x := fun z => by
        subst z
        have m2 := (hx.spec (.dat d)).2.1
        have nd := e5.nd
        have := nd_slot nd m m2
        rw [this] at o; exact o.elim
      refine own_fresh he1 a1 w s ad e o fun n hn => ?_
      have := hw n hn
      rwa [List.getElem?_set_ne (fun e => wx (by subst e; exact Option.some.inj (hn.symm.trans hi)))] at this
  case h2 =>
    intro w s ad m ne o hw
    by_cases wy : w = y
    · subst wy
      have hv := hw j hj
      rw [List.getElem?_set_self (by rw [List.length_set, I.len]; exact (List.getElem?_eq_some_iff.mp hj).1)] at hv
      have w3 := Option.some.inj (Option.some.inj hv)
      have w4 : q1 = ad := by injection w3
      rw [← w4]
      exact ne12
    · rcases ((hy (.dat d)).spec (.own l1)).2.2.2 _ m with e | e
      · exact absurd (Prod.mk.inj e).1 wy
      · rcases (hx.spec (.dat d)).2.2.2 _ e with e' | e'
        · obtain ⟨_, e2⟩ := Prod.mk.inj e'; rw [e2] at o; exact o.elim
        · have wx : w ≠ x := fun z => by
            subst z
            have m2 := (hx.spec (.dat d)).2.1
            have nd := e5.nd
            have := nd_slot nd e m2
            rw [this] at o; exact o.elim
          refine own_fresh he2 b1 w s ad e' o fun n hn => ?_
          have := hw n hn
          rwa [List.getElem?_set_ne (fun e => wy (by subst e; exact Option.some.inj (hn.symm.trans hj))), List.getElem?_set_ne (fun e => wx (by subst e; exact Option.some.inj (hn.symm.trans hi)))] at this
end
end L3
namespace L3
open PySem PySem.Spec PyProof.Rows L2
/-! ### repr of data with empty dicts in them -/
mutual
def D.pl2 : D → Bool
  | .non | .bl _ | .int _ | .str _ => true
  | .lst l | .tup l => D.plA2 l
  | .dct l => l.isEmpty
  | _ => false
def D.plA2 : List D → Bool
  | [] => true
  | d :: ds => d.pl2 && D.plA2 ds
end
mutual
def pd2 : D → PyData
  | .bl b => .bool b
  | .int i => .int i
  | .str s => .str s
  | .lst l => .list (pdA2 l)
  | .tup l => .tuple (pdA2 l)
  | .dct _ => .dict []
  | _ => .none
def pdA2 : List D → List PyData
  | [] => []
  | d :: ds => pd2 d :: pdA2 ds
end
/-- nothing known stands at the modules' dict -/
def BaseSm (base : Heap) : Prop := ∃ o, base.get? sysModules = some o
theorem free_sm {X : Cx} {pins : List (Addr × Obj)} {σ : L2.St} {H : Hp} {s : Shared} (I : L2.Inv X pins σ H s) (hb : BaseSm X.base) : H sysModules = none := by
  obtain ⟨o, ho⟩ := hb
  obtain ⟨h1, h2⟩ := I.ok.bs _ o ho
  exact I.base.free _ o h1 h2 (I.ok.noex _ o ho)
/-! bounds -/
structure R2 (B n k : Nat) (d : D) : Prop where
  pl : d.pl2 = true
  sh : (pd2 d).showable = true
  lv : (pd2 d).leavesShort B = true
  wt : (pd2 d).weight ≤ n
  dp : (pd2 d).depth ≤ k
theorem R2.mono {B n k n' k' : Nat} {d : D} (h : R2 B n k d) (h1 : n ≤ n') (h2 : k ≤ k') : R2 B n' k' d := ⟨h.pl, h.sh, h.lv, Nat.le_trans h.wt h1, Nat.le_trans h.dp h2⟩
theorem R2.all {B n k : Nat} : ∀ {ds : List D}, (∀ d ∈ ds, R2 B n k d) → D.plA2 ds = true ∧ PyData.showableAll (pdA2 ds) = true ∧ PyData.leavesShortAll B (pdA2 ds) = true ∧ PyData.weightAll (pdA2 ds) ≤ ds.length * (n + 1) ∧ PyData.depthAll (pdA2 ds) ≤ k
  | [], _ => ⟨rfl, rfl, rfl, Nat.zero_le _, Nat.zero_le _⟩
  | d :: ds, h => by
    obtain ⟨h1, h2, h3, h4, h5⟩ := h d List.mem_cons_self
    obtain ⟨k1, k2, k3, k4, k5⟩ := R2.all fun e m => h e (List.mem_cons_of_mem _ m)
    simp only [D.plA2, pdA2, PyData.showableAll, PyData.leavesShortAll, PyData.weightAll, PyData.depthAll, h1, h2, h3, k1, k2, k3, Bool.and_self, List.length_cons, Nat.succ_mul, true_and]
    omega
theorem R2.tup {B n k : Nat} {ds : List D} (h : ∀ d ∈ ds, R2 B n k d) : R2 B (ds.length * (n + 1)) (k + 1) (.tup ds) := by
  obtain ⟨h1, h2, h3, h4, h5⟩ := R2.all h
  exact ⟨by simp only [D.pl2]; exact h1, by simp only [pd2, PyData.showable]; exact h2, by simp only [pd2, PyData.leavesShort]; exact h3, by simp only [pd2, PyData.weight]; exact h4, by simp only [pd2, PyData.depth]; omega⟩
theorem R2.lst {B n k : Nat} {ds : List D} (h : ∀ d ∈ ds, R2 B n k d) : R2 B (ds.length * (n + 1)) (k + 1) (.lst ds) := by
  obtain ⟨h1, h2, h3, h4, h5⟩ := R2.all h
  exact ⟨by simp only [D.pl2]; exact h1, by simp only [pd2, PyData.showable]; exact h2, by simp only [pd2, PyData.leavesShort]; exact h3, by simp only [pd2, PyData.weight]; exact h4, by simp only [pd2, PyData.depth]; omega⟩
theorem R2.non {B : Nat} : R2 B 0 0 .non := ⟨rfl, rfl, rfl, Nat.le_refl _, Nat.le_refl _⟩
theorem R2.bl {B : Nat} {b : Bool} : R2 B 0 0 (.bl b) := ⟨rfl, rfl, rfl, Nat.le_refl _, Nat.le_refl _⟩
theorem R2.int {B n : Nat} {i : Int} (h : Rs B n 0 (.int i)) : R2 B n 0 (.int i) := ⟨h.pl, h.sh, h.lv, h.wt, h.dp⟩
theorem R2.str {B n : Nat} {i : Str} (h : Rs B n 0 (.str i)) : R2 B n 0 (.str i) := ⟨h.pl, h.sh, h.lv, h.wt, h.dp⟩
theorem R2.dct {B : Nat} : R2 B 0 1 (.dct []) := ⟨rfl, rfl, rfl, Nat.le_refl _, Nat.le_refl _⟩
section
variable {P : Program} {w : World} {K : PySem.W.Frag} {mg : Str → Option Value}
/-- the law's call at the caller's -/
theorem law_callG2 {mb : Str → Option Value} {k : Nat} {fa a : Addr} {fd : FuncData} {x : Str} {s1 : Shared} {vs : List Value} {ns : List Int} (KX : K.In s1.heap) (hns : s1.heap.Ns mainGlobals mg) (hb : s1.heap.Ns builtinsNs mb)
    (hbb : ∀ y : Str, y ≠ "__name__" → mb y = bootBuiltins y) (hlim : s1.heap.NoLimit) (hsm : ∃ mm, s1.heap.Ns sysModules mm) (hg : s1.gens = #[]) (ha : s1.heap.get? a = some { cls := .type "list", data := .seq vs.toArray }) (hi : IntsAre vs ns) (hl : ns.length ≤ sizeLine) (hr : Room k callerA)
    (F : ∀ base : Heap, K.In base → base.Ns mainGlobals mg → BaseSm base → FnG P w K mg base k fa fd [x] (spLaw K)) (hbind : ∀ (s : Shared) (u : Value), BindsTo s fd ⟨[u], []⟩ [(x, u)]) :
    codeAny (model P w) callerA (.call (.ref fa) ⟨[.ref a], []⟩) (fun r s' => r = .ok (.ret (.bool true)) ∧ PySem.OldK s1.heap s'.heap ∧ s'.os = s1.os ∧ AllBare s'.gens) s1 := by
  let ob : Obj := { cls := .type "list", data := .seq vs.toArray }
  have rv : Vals (ns.map V.int) vs := vals_ints hi
  -- H: the script alone is known, or it is an object of the module
  obtain ⟨H, hH, hS, hok⟩ : ∃ H : Hp, (∀ b u, H b = some u → b = a ∧ K.lookup a = none ∧ u = .frz ob (.lst (ns.map V.int))) ∧ SqL K H a (ns.map V.int) ∧ HOk P w H s1.heap := by
    cases hk : K.lookup a with
    | some o =>
      have e := KX a o hk
      rw [ha] at e
      cases e
      refine ⟨fun _ => none, fun b u z => (by cases z), .inr ⟨_, vs.toArray, _, hk, rfl, rfl, rfl, ?_, by simpa using rv⟩, fun b u z => (by cases z)⟩
      rw [List.size_toArray, hi.length]
      exact hl
    | none =>
      refine ⟨fun b => if b = a then some (.frz ob (.lst (ns.map V.int))) else none, fun b u z => ?_, .inl (.inr ⟨ob, if_pos rfl⟩), fun b u z => ?_⟩
      · have z : (if b = a then some (HO.frz ob (.lst (ns.map V.int))) else none) = some u := z
        by_cases e : b = a
        · rw [if_pos e] at z; cases z; exact ⟨e, rfl, rfl⟩
        · rw [if_neg e] at z; cases z
      · have z : (if b = a then some (HO.frz ob (.lst (ns.map V.int))) else none) = some u := z
        by_cases e : b = a
        · rw [if_pos e] at z
          cases z
          subst e
          exact ⟨ha, by rw [List.length_map]; exact hl, vs, _, rv, ha⟩
        · rw [if_neg e] at z; cases z
  have un : ∀ {b : Addr} {o : Obj}, s1.heap.get? b = some o → o ≠ ob → H b = none := fun {b o} e ne => by
    cases q : H b with
    | none => rfl
    | some u =>
      obtain ⟨rfl, _, _⟩ := hH b u q
      rw [ha] at e
      exact absurd (Option.some.inj e).symm ne
  have nsB : ∀ {b : Addr} {m : Str → Option Value}, s1.heap.Ns b m → (hidT s1.heap H).Ns b m := by
    rintro b m ⟨o, es, ep, e, d, r⟩
    refine ⟨o, es, ep, hidT_get e (un e ?_), d, r⟩
    rintro rfl
    cases d
  have KB : K.In (hidT s1.heap H) := by
    intro b o e
    refine hidT_get (KX b o e) ?_
    cases q : H b with
    | none => rfl
    | some u =>
      obtain ⟨rfl, z, _⟩ := hH b u q
      rw [z] at e
      cases e
  have hM : Mod K mg (hidT s1.heap H) := ⟨KB, nsB hns, ⟨mb, nsB hb, hbb⟩, let ⟨mc, z1, z2⟩ := hlim; ⟨mc, nsB z1, z2⟩⟩
  have e0 : Env0 P w K mg (hidT s1.heap H) callerA [] s1 H := by
    refine ⟨rfl, hM, fun b o e => of_hidT e, Nat.le_of_eq (hidT_size _ _), trivial, ?_, hok, .of_eq hg⟩
    intro b hb
    exact absurd (show b ∈ ([] : List Addr) from hb) (by simp)
  have hbs : BaseSm (hidT s1.heap H) := by
    obtain ⟨mm, h⟩ := hsm
    obtain ⟨o, _, _, z, _⟩ := nsB h
    exact ⟨o, z⟩
  have run := (F _ KB (nsB hns) hbs).run callerA [] s1 H ⟨[.ref a], []⟩ [.ref a] [.ref a] (fun v _ => v = .bl true) hr rfl e0 (hbind s1 (.ref a)) (.cons rfl .nil) ⟨a, ns, rfl, hS, fun _ => rfl⟩
  refine codeAny_mono run fun r s' h => ?_
  cases r with
  | error e => exact h.elim
  | ok fl =>
    cases fl with
    | next => exact h.elim
    | brk => exact h.elim
    | cont => exact h.elim
    | ret u =>
      obtain ⟨v, H', os, bare, uu, hok', r', rfl⟩ := h
      obtain rfl : u = Value.bool true := r'
      refine ⟨rfl, PySem.OldK.of_keep fun b o e => ?_, os, bare⟩
      cases q : H b with
      | none =>
        refine uu.keep b o e q ?_ (by simp)
        intro z
        exact absurd (show b ∈ ([] : List Addr) from z) (by simp)
      | some u =>
        obtain ⟨_, _, rfl⟩ := hH b u q
        obtain ⟨z1, _⟩ := hok b _ q
        obtain ⟨z2, _⟩ := hok' b _ (uu.frzs b ob _ q)
        rw [e] at z1
        cases z1
        exact z2
end
end L3
namespace L3
open PySem PySem.Spec PyProof.Rows L2
/-! ### t[::-1], a tuple of any length -/
theorem rev_places {n : Nat} : Builtin.Slice.sliceAdjust none none (-1) (n : Int) = ((n : Int) - 1, -1) ∧ Builtin.Slice.slicePlaces ((n : Int) - 1) (-1) (-1) = n := by
  constructor
  · rfl
  · unfold Builtin.Slice.slicePlaces
    rw [if_neg (by decide)]
    split
    · rw [show (-(-1) : Int) = 1 from rfl, Int.ediv_one]; omega
    · omega
theorem fm_congr {α β : Type} {f g : α → Option β} : ∀ {l : List α}, (∀ x ∈ l, f x = g x) → l.filterMap f = l.filterMap g
  | [], _ => rfl
  | a :: l, h => by
    rw [List.filterMap_cons, List.filterMap_cons, h a List.mem_cons_self, fm_congr fun x m => h x (List.mem_cons_of_mem _ m)]
theorem rev_items (xs : Array Value) : ((List.range xs.size).filterMap fun (k : Nat) => xs[((xs.size : Int) - 1 + (k : Int) * (-1)).toNat]?) = xs.toList.reverse := by
  have h : ∀ k ∈ List.range xs.size, xs[((xs.size : Int) - 1 + (k : Int) * (-1)).toNat]? = xs.toList.reverse[k]? := fun k hk => by
    have hk := List.mem_range.mp hk
    rw [List.getElem?_reverse (by rw [Array.length_toList]; exact hk), Array.length_toList, Array.getElem?_toList]
    congr 1
    omega
  rw [fm_congr h]
  have : ∀ l : List Value, (List.range l.length).filterMap (fun k => l[k]?) = l := fun l => by
    induction l with
    | nil => rfl
    | cons a l ih =>
      rw [List.length_cons, List.range_succ_eq_map, List.filterMap_cons, List.filterMap_map]
      simp only [List.getElem?_cons_zero]
      congr 1
  have z := this xs.toList.reverse
  rw [List.length_reverse, Array.length_toList] at z
  exact z
theorem vals_snoc {x : V} {u : Value} (r : L2.RelV x u) : ∀ {xs : List V} {us : List Value}, L2.Vals xs us → L2.Vals (xs ++ [x]) (us ++ [u])
  | _, _, .nil => .cons r .nil
  | _, _, .cons a b => .cons a (vals_snoc r b)
theorem vals_rev : ∀ {xs : List V} {us : List Value}, L2.Vals xs us → L2.Vals xs.reverse us.reverse
  | _, _, .nil => .nil
  | _, _, .cons a b => by rw [List.reverse_cons, List.reverse_cons]; exact vals_snoc a (vals_rev b)
section
variable {prog : Program} {w : World} {A : Around} {E : Value → Shared → Prop} {s : Shared}
theorem getItem_revT {t sl : Addr} {xs : Array Value} {u : Tok} {Q : Value → Shared → Prop} (ht : IsTup s.heap t xs) (hz : xs.size ≤ sizeLine) (hs : s.heap.IsSliceOf sl .none .none (.int (-1) u))
    (h : Q (.ref s.heap.objs.size) { s with heap := s.heap.push { cls := .type "tuple", data := .seq xs.toList.reverse.toArray } }) : wpAny (model prog w) A (getItem (.ref t) (.ref sl)) Q E s := by
  obtain ⟨os, hos, hcs, hds⟩ := id hs
  have hTs : s.TypeIs (.ref sl) "slice" := ⟨os, hos, hcs⟩
  unfold getItem
  try with_reducible refine wpAny_holding ?_
  first | refine wpAny_bind (wpAny_pure ?_) | skip
  refine wpAny_bind (wpAny_sequenceKey ht.typeIs (by decide) ?_)
  refine wpAny_bind (wpAny_callSpecial?_slot (name := Str.ofString "__getitem__") ht.typeIs PyProof.Rows.slot_tuple_getitem
    (wpAny_call_entry PyProof.Rows.slot_tuple_getitem ht.typeIs entry_tuple_getitem ?_ (args_tuple_getitem _ _)))
  show wpAny _ _ (Builtin.Tuple.tupleItemsOf (.ref t) >>= _) _ _ s
  refine wpAny_bind (tupleItemsOf_ ht ?_)
  refine wpAny_bind (wpAny_typeOf hTs ?_)
  rw [if_pos (by decide)]
  refine wpAny_bind ?_
  · unfold Builtin.Slice.sliceApplied Builtin.Slice.sliceFields
    refine wpAny_bind (wpAny_bind (wpAny_field hos hds (x := .none) rfl (wpAny_bind (wpAny_field hos hds (x := .none) rfl (wpAny_bind (wpAny_field hos hds (x := .int (-1) u) rfl (wpAny_pure ?_)))))))
    refine wpAny_bind (slicePart_int ?_)
    show wpAny _ _ (if ((-1 : Int) == 0) = true then _ else _) _ _ s
    rw [if_neg (by decide)]
    refine wpAny_bind (slicePart_none (wpAny_bind (slicePart_none (wpAny_bind (wpAny_pure ?_)))))
    show wpAny _ _ (match Builtin.Slice.sliceAdjust none none (-1) (xs.size : Int) with | (lo, hi) => pure (lo, (-1 : Int), Builtin.Slice.slicePlaces lo hi (-1))) _ _ s
    rw [(rev_places (n := xs.size)).1]
    show wpAny _ _ (pure ((xs.size : Int) - 1, (-1 : Int), Builtin.Slice.slicePlaces ((xs.size : Int) - 1) (-1) (-1))) _ _ s
    rw [(rev_places (n := xs.size)).2]
    refine wpAny_pure ?_
    have htake : sizeOk (.seq xs.toList.reverse.toArray) := by
      show xs.toList.reverse.toArray.size ≤ sizeLine
      rw [List.size_toArray, List.length_reverse, Array.length_toList]
      exact hz
    show wpAny _ _ (if ((xs.size : Int) - 1 == 0 && (-1 : Int) == 1 && (xs.size : Nat) == xs.size) = true then _ else _) _ _ s
    rw [if_neg (by simp)]
    have e3 : ((List.range xs.size).filterMap fun (k : Nat) => xs[((xs.size : Int) - 1 + (k : Int) * (-1)).toNat]?).toArray = xs.toList.reverse.toArray := by rw [rev_items]
    rw [e3]
    first
      | exact wpAny_bind (m := Builtin.Tuple.tupleExact _) (wpAny_newObj_type (wpAny_pure ⟨_, rfl, wpAny_pure h⟩) htake)
      | exact wpAny_bind (m := Builtin.Tuple.tupleExact _) (wpAny_newObj_type (wpAny_bind (wpAny_pure (wpAny_pure ⟨_, rfl, wpAny_pure h⟩))) htake)
      | exact wpAny_bind (wpAny_bind (m := Builtin.Tuple.tupleExact _) (wpAny_newObj_type (wpAny_pure (wpAny_pure ⟨_, rfl, wpAny_pure h⟩)) htake))
      | exact wpAny_bind (wpAny_bind (m := Builtin.Tuple.tupleExact _) (wpAny_newObj_type (wpAny_pure ⟨_, rfl, wpAny_pure h⟩) htake))
end
def tRevT (K : PySem.W.Frag) (te tm : TE) : TE := fun σ H Q => te σ H fun x H1 => tm σ H1 fun m H2 => m = .int (-1) ∧ ∃ a ys, x = .ref a ∧ SqT K H2 a ys ∧ ∀ p, H2 p = none → Q (.ref p) (upd H2 p (.tup ys.reverse))
theorem pe_revT {X : Cx} {e m : Expr} {te tm : TE} {p2 pos : Pos} (he : PE X e te) (hm : PE X m tm) : PE X (.Subscript e (.Slice none none (some m) p2) pos) (tRevT X.K te tm) := by
  refine ⟨fun pins s σ H Q I h => ?_⟩
  refine Subscript_ (thn (he.run pins s σ H _ I h) fun v s1 ⟨x, H1, I1, r1, q1⟩ => ?_)
  refine wpAny_Slice ?_
  rw [evalPart_none]
  refine wpAny_pure ?_
  try rw [evalPart_none]
  refine wpAny_pure ?_
  rw [evalPart_some]
  refine thn (hm.run pins s1 σ H1 _ I1 q1) fun w s3 ⟨n, H3, I3, rm, em, a, ys, ea, hq, q3⟩ => ?_
  subst em ea
  obtain ⟨t, rfl⟩ := rm
  obtain rfl : v = Value.ref a := r1
  have I4 : L2.Inv X pins σ H3 { s3 with heap := s3.heap.push { cls := .type "slice", data := .fields #[.none, .none, .int (-1) t] } } := I3.kept (t' := s3.toks) fun b ob q => Heap.get?_push_of_some _ q
  obtain ⟨its, r, ht, hz⟩ := I4.tuple hq
  show wpAny (model X.prog X.w) X.A (subscriptTail e (.Slice none none (some m) p2) (.ref a) (.ref s3.heap.objs.size)) (EP X pins σ Q) X.xe { s3 with heap := s3.heap.push { cls := .type "slice", data := .fields #[.none, .none, .int (-1) t] } }
  refine tail_any (ops := [.ref a, .ref s3.heap.objs.size]) ht.typeIs PyProof.Rows.slot_tuple_getitem.lookup (getItem_revT ht (by rw [List.size_toArray, ← r.length]; exact hz) (Heap.IsSliceOf.new ..) ?_) (by with_unfolding_all rfl)
  refine ⟨.ref _, upd H3 _ (.tup ys.reverse), I4.laid (t' := s3.toks) (o := .tup ys.reverse) (fun b ob q => Heap.get?_push_of_some _ q) (Nat.le_refl _) ?_, rfl, q3 _ (I4.hok.fresh (Nat.le_refl _))⟩
  exact ⟨by rw [List.length_reverse]; exact hz, its.reverse, vals_rev r, IsTup.new _ _⟩
section
variable {C : SC} {A : Amb} {E : NE} {u : A.U} {P : Post A} {pos p p2 p3 p4 q1 q2 apos spos cpos : Pos} {e a b o : Expr} {Φ : D → A.U → Prop}
section
variable {C : SC} {A : Amb} {E : NE} {u : A.U} {P : Post A} {pos p p2 p3 p4 q1 q2 apos spos cpos : Pos} {e a b o : Expr} {Φ : D → A.U → Prop}
/-- t[::-1], t a tuple -/
theorem k_revT {j} (h : EvK C A e E u fun d u' => ∃ l, d = .tup l ∧ Φ (.tup l.reverse) u') : EvK C A (.Subscript e (.Slice none none (some (.UnaryOp .USub (.Constant (.int 1) j p3) p4)) p2) pos) E u Φ := by
  refine EvK.of (tRevT C.K (rE C e) (rE C (.UnaryOp .USub (.Constant (.int 1) j p3) p4))) (fun X hX => by
    obtain ⟨k, nm, rfl, hO, hK⟩ := id hX
    exact pe_revT (pe_of hX e) (pe_of hX _)) fun G0 H0 G H σ he Q q => ?_
  refine h G0 H0 G H σ he _ fun d u1 v G1 H1 ⟨l, e1, k⟩ g1 st1 r1 => ?_
  subst e1
  refine k_neg (A := A) (E := E) (u := u1) (Φ := fun d u2 => d = .int (-1) ∧ u2 = u1) (k_int ⟨1, rfl, rfl, rfl⟩) G0 H0 G1 H1 σ (he.go g1 st1) _ fun d' u2 m G2 H2 ⟨e2, eu⟩ g2 st2 r2 => ?_
  subst e2 eu
  simp only [Rp] at r2
  have r1 := r1.mono g2.gg
  simp only [Rp] at r1
  obtain ⟨z, xs, rfl, h1, h2⟩ := r1
  refine ⟨r2, z, xs, rfl, Kn.sqT g2.gh h1, fun p hp => ?_⟩
  have g3 : Grow noFoot noFoot G2 H2 (upd G2 p (.tup xs.reverse)) (upd H2 p (.tup xs.reverse)) := Grow.new g2.gh hp
  exact q _ _ (.ref p) _ _ k ((g1.trans g2).trans g3.weak) (A.grow st2 g3) (by simp only [Rp]; exact ⟨p, _, rfl, .inl (.inl upd_same), (RpA.reverse h2).mono g3.gg⟩)
end
end
end L3
namespace L3
open PySem PySem.Spec PyProof.Rows L2
/-- a tuple with the empty one -/
def eqT (x y : D) (Ψ : Bool → Prop) : Prop := ∃ l, x = .tup l ∧ y = .tup [] ∧ Ψ l.isEmpty
section
variable {C : SC}
theorem eqT_ok : OpS C (compareOp .Eq) (toB eqT) := by
  rintro X ⟨k, nm, rfl, hO, hK⟩ pins s σ H x y v u Q I rx ry ⟨G, da, db, Ψ, kn, ra, rb, ⟨l, rfl, rfl, p⟩, q⟩
  have hu := Has.hu hK
  simp only [Rp] at ra rb
  obtain ⟨z1, xs, rfl, h1, r1⟩ := ra
  obtain ⟨z2, ys, rfl, h2, r2⟩ := rb
  rw [RpA.nil_iff] at r2
  subst r2
  obtain rfl : v = Value.ref z1 := rx
  obtain rfl : u = Value.ref z2 := ry
  obtain ⟨i1, rv1, p1, _⟩ := I.tuple (kn.sqT h1)
  obtain ⟨i2, rv2, p2, _⟩ := I.tuple (kn.sqT h2)
  cases rv2
  have e1 := r1.len
  have e2 := rv1.length
  refine SeqAt.eq_tupleAt (e := fun _ => true) p1 p2 (by omega) (fun j _ h => absurd h (Nat.not_lt_zero _)) ?_
  refine ⟨V.bl _, H, I, rfl, q (.bl l.isEmpty) _ G H p (Grow.refl kn) ?_⟩
  simp only [Rp]
  congr 1
  have : i1.length = l.length := by rw [← e2, e1]
  cases l with
  | nil => simp at this; subst this; rfl
  | cons d l => cases i1 with
    | nil => cases this
    | cons _ _ => simp
end
end L3
namespace L3
open PySem PySem.Spec PyProof.Rows L2
/-! ### objects of one's own of any kind -/
section
variable {C : SC} {A : Amb} {E : NE} {u : A.U} {pos p apos spos cpos p2 : Pos} {e a b : Expr} {P : Post A} {Φ : D → A.U → Prop} {Ψ : Bool → A.U → Prop}
theorem Env.chgX {G0 : Beg} {H0 G H : Hp} {σ : L2.St} {x : Str} {F : Sl → NE} {R : OwnR} (he : Env C A G0 H0 u G H E σ) (hp : Spl E x F) (hm : At E x (.ownX R)) :
    ∃ (i : Nat) (q : Addr) (ob : HO), C.N[i]? = some x ∧ σ[i]? = some (some (.ref q)) ∧ G q = none ∧ ¬ A.foot u q ∧ H q = some ob ∧ R.rep G q ob ∧ (∀ (R' : OwnR) ob', R'.rep G q ob' → Env C A G0 H0 u G (upd H q ob') (F (.ownX R')) σ) ∧
      ∀ (R' : OwnR) ob', R'.rep G q ob' → Env C A G0 H0 u (upd G q ob') (upd H q ob') (F (.knX R')) σ := by
  obtain ⟨α, e1, e2⟩ := he.ent
  obtain ⟨i, hi, hs, hG, h0, hf, ob, hH, hr⟩ := e1 x _ hm.mem
  have names : ∀ s, (F s).map (·.1) = E.map (·.1) := fun s => (hp.spec s).1
  have nd : ∀ s, ((F s).map (·.1)).Nodup := fun s => by rw [names]; exact he.nd
  have mem : ∀ s, (x, s) ∈ F s := fun s => (hp.spec s).2.1
  have same : ∀ s y t, (y, t) ∈ F s → (y = x ∧ t = s) ∨ (y ≠ x ∧ (y, t) ∈ E) := fun s y t m => by
    by_cases z : y = x
    · subst z
      exact .inl ⟨rfl, nodup_key (nd s) m (mem s)⟩
    · rcases (hp.spec s).2.2.2 _ m with q | q
      · exact absurd (Prod.mk.inj q).1 z
      · exact .inr ⟨z, q⟩
  have apart : ∀ y t, (y, t) ∈ E → y ≠ x → t.isOwn → α y ≠ α x := fun y t m n o q => n (e2 y x t _ m hm.mem o trivial q)
  have neG : ∀ a o, G a = some o → a ≠ α x := fun a o q z => by subst z; rw [hG] at q; cases q
  have neH : ∀ a o, H0 a = some o → a ≠ α x := fun a o q z => by subst z; rw [h0] at q; cases q
  have stay : ∀ ob' a o, a ≠ α x → H a = some o → upd H (α x) ob' a = some o := fun ob' a o n q => by rw [upd_ne n]; exact q
  refine ⟨i, α x, ob, hi, hs, hG, hf, hH, hr, fun R' ob' hr' => ?_, fun R' ob' hr' => ?_⟩
  · have stay := stay ob'
    refine ⟨⟨he.gr.gg, fun a o q => stay a o (neG a o q) (he.gr.gh a o q), fun a o n q => stay a o (neH a o q) (he.gr.hh a o n q), fun a q => ?_, he.gr.fr, he.gr.ff⟩, he.ln, ?_, nd _, α, fun y t m => ?_, fun y z s t m1 m2 o1 o2 q => ?_⟩
    · by_cases z : a = α x
      · subst z; rw [upd_same]; simp
      · rw [upd_ne z]; exact he.gr.th a q
    · exact A.stay u G H G _ he.st (Kn.refl _) (fun a o f q => stay a o (fun z => hf (by rw [← z]; exact f)) q) fun a f q => q
    · rcases same _ y t m with ⟨rfl, rfl⟩ | ⟨n, m'⟩
      · exact ⟨i, hi, hs, hG, h0, hf, ob', upd_same, hr'⟩
      · obtain ⟨j, f1, f2⟩ := e1 y t m'
        refine ⟨j, f1, ?_⟩
        cases t with
        | un => trivial
        | dat d => exact f2
        | own m2 => obtain ⟨g1, g2, g3, g4, ys, g5, g6⟩ := f2; exact ⟨g1, g2, g3, g4, ys, stay _ _ (apart y _ m' n trivial) g5, g6⟩
        | ownD m2 => obtain ⟨g1, g2, g3, g4, ys, g5, g6⟩ := f2; exact ⟨g1, g2, g3, g4, ys, stay _ _ (apart y _ m' n trivial) g5, g6⟩
        | ownX R => obtain ⟨g1, g2, g3, g4, ys, g5, g6⟩ := f2; exact ⟨g1, g2, g3, g4, ys, stay _ _ (apart y _ m' n trivial) g5, g6⟩
        | knX R => exact f2
    · rcases same _ y s m1 with ⟨rfl, rfl⟩ | ⟨n1, m1'⟩ <;> rcases same _ z t m2 with ⟨rfl, rfl⟩ | ⟨n2, m2'⟩
      · rfl
      · exact absurd q.symm (apart z t m2' n2 o2)
      · exact absurd q (apart y s m1' n1 o1)
      · exact e2 y z s t m1' m2' o1 o2 q
  · have stay := stay ob'
    have kn := Kn.new (G := G) (p := α x) (o := ob') hG
    have neF : ∀ a, A.foot u a → a ≠ α x := fun a f z => hf (by rw [← z]; exact f)
    refine ⟨⟨he.gr.gg.trans kn, fun a o q => ?_, fun a o n q => stay a o (neH a o q) (he.gr.hh a o n q), fun a q => ?_, fun a q n => ?_, he.gr.ff⟩, he.ln, A.stay u G H _ _ he.st kn (fun a o f q => stay a o (neF a f) q) fun a f q => by rw [upd_ne (neF a f)]; exact q, nd _, α, fun y t m => ?_, fun y z s t m1 m2 o1 o2 q => ?_⟩
    · by_cases z : a = α x
      · subst z; rw [upd_same] at q; cases q; exact upd_same
      · rw [upd_ne z] at q; exact stay a o z (he.gr.gh a o q)
    · by_cases z : a = α x
      · subst z; rw [upd_same]; simp
      · rw [upd_ne z]; exact he.gr.th a q
    · by_cases z : a = α x
      · subst z; exact h0
      · rw [upd_ne z] at n; exact he.gr.fr a q n
    · rcases same _ y t m with ⟨rfl, rfl⟩ | ⟨n, m'⟩
      · exact ⟨i, hi, _, ob', hs, upd_same, R'.mono kn hr'⟩
      · obtain ⟨j, f1, f2⟩ := e1 y t m'
        refine ⟨j, f1, ?_⟩
        have up : t.isOwn → ∀ z, G z = none → z = α y → upd G (α x) ob' z = none := fun o z g1 ez => by rw [upd_ne (by rw [ez]; exact apart y t m' n o)]; exact g1
        cases t with
        | un => trivial
        | dat d => obtain ⟨v, g1, g2⟩ := f2; exact ⟨v, g1, g2.mono kn⟩
        | own m2 => obtain ⟨g1, g2, g3, g4, ys, g5, g6⟩ := f2; exact ⟨g1, up trivial _ g2 rfl, g3, g4, ys, stay _ _ (apart y _ m' n trivial) g5, g6.mono kn⟩
        | ownD m2 => obtain ⟨g1, g2, g3, g4, ys, g5, g6⟩ := f2; exact ⟨g1, up trivial _ g2 rfl, g3, g4, ys, stay _ _ (apart y _ m' n trivial) g5, g6.mono kn⟩
        | ownX R => obtain ⟨g1, g2, g3, g4, ys, g5, g6⟩ := f2; exact ⟨g1, up trivial _ g2 rfl, g3, g4, ys, stay _ _ (apart y _ m' n trivial) g5, R.mono kn g6⟩
        | knX R => obtain ⟨q', ob2, e, h1, h2⟩ := f2; exact ⟨q', ob2, e, kn _ _ h1, R.mono kn h2⟩
    · rcases same _ y s m1 with ⟨rfl, rfl⟩ | ⟨n1, m1'⟩ <;> rcases same _ z t m2 with ⟨rfl, rfl⟩ | ⟨n2, m2'⟩
      · rfl
      · exact (show False from o1).elim
      · exact (show False from o2).elim
      · exact e2 y z s t m1' m2' o1 o2 q
/-- known from here on, and no more changed -/
def OwnR.froz (R : OwnR) : OwnR where
  rep := fun G a o => ∃ od ob, o = .frz od ob ∧ R.rep G a ob
  mono := fun kn ⟨od, ob, e, h⟩ => ⟨od, ob, e, R.mono kn h⟩
/-- an object of one's own, or a known one, where it stands -/
inductive XAt (E : NE) (x : Str) (R : OwnR) : Prop where
  | o (h : At E x (.ownX R)) : XAt E x R
  | k (h : At E x (.knX R)) : XAt E x R
theorem XAt.mem {x : Str} {R : OwnR} (h : XAt E x R) : ∃ s, (x, s) ∈ E := by cases h with | o h => exact ⟨_, h.mem⟩ | k h => exact ⟨_, h.mem⟩
theorem Env.atX {G0 : Beg} {H0 G H : Hp} {σ : L2.St} {x : Str} {R : OwnR} (he : Env C A G0 H0 u G H E σ) (hm : XAt E x R) :
    ∃ (i : Nat) (q : Addr) (ob : HO), C.N[i]? = some x ∧ σ[i]? = some (some (.ref q)) ∧ H q = some ob ∧ R.rep G q ob ∧ ((G q = none ∧ ¬ A.foot u q) ∨ G q = some ob) := by
  obtain ⟨α, e1, _⟩ := he.ent
  cases hm with
  | o h =>
    obtain ⟨i, hi, h1, h2, _, h4, ob, h5, h6⟩ := e1 x _ h.mem
    exact ⟨i, α x, ob, hi, h1, h5, h6, .inl ⟨h2, h4⟩⟩
  | k h =>
    obtain ⟨i, hi, q, ob, h1, h2, h3⟩ := e1 x _ h.mem
    exact ⟨i, q, ob, hi, h1, he.kn _ _ h2, h3, .inr h2⟩
theorem own_varX {X : Cx} {G0 : Beg} {H0 G H : Hp} {σ : L2.St} {x : Str} {R : OwnR} {kd : NameKind} (hX : Has C X) (he : Env C A G0 H0 u G H E σ) (hm : XAt E x R) (hn : Nm C.nm x kd) (hv : VisK kd)
    (hd : (x == ("__debug__" : Str)) = false) (hc : (x == ("__classdict__" : Str)) = false) : ∃ i : Nat, PE X (.Name x p) (tVar i) ∧ C.N[i]? = some x := by
  obtain ⟨j, nm, rfl, hO, hK⟩ := id hX
  obtain ⟨α, e1, _⟩ := he.ent
  obtain ⟨s, hs⟩ := hm.mem
  obtain ⟨i, hi, _⟩ := e1 x _ hs
  exact ⟨i, pe_var (i := i) hi (hn.vis hO hv) hd hc, hi⟩
/-- what was there stays there while a datum is found -/
theorem x_keep {G H G' H' : Hp} {q : Addr} {ob : HO} (g : Grow (A.foot u) (A.foot u') G H G' H') (hG : (G q = none ∧ ¬ A.foot u q) ∨ G q = some ob) (hH : H q = some ob) : H' q = some ob := by
  rcases hG with ⟨_, hf⟩ | hG
  · exact g.hh q _ hf hH
  · exact g.gh q _ (g.gg _ _ hG)
theorem Env.putOwnX {G0 : Beg} {H0 G H : Hp} {σ : L2.St} {x : Str} {F : Sl → NE} {R : OwnR} {q : Addr} {ob : HO} {i : Nat} (he : Env C A G0 H0 u G H E σ) (hp : Spl E x F) (hi : C.N[i]? = some x) (hl : σ.length = C.N.length) (nd : C.N.Nodup)
    (hG : G q = none) (h0 : H0 q = none) (hf : ¬ A.foot u q) (hH : H q = some ob) (r : R.rep G q ob) (hnew : ∀ (y : Str) (s : Sl) (a : Addr), (y, s) ∈ E → y ≠ x → s.isOwn → (∀ j : Nat, C.N[j]? = some y → σ[j]? = some (some (.ref a))) → a ≠ q) :
    Env C A G0 H0 u G H (F (.ownX R)) (σ.set i (some (.ref q))) := by
  obtain ⟨h1, h2, _, h4⟩ := hp.spec (.ownX R)
  obtain ⟨α, e1, e2⟩ := he.ent
  have nd' : ((F (.ownX R)).map (·.1)).Nodup := by rw [h1]; exact he.nd
  have key : ∀ y s, (y, s) ∈ F (.ownX R) → (y = x ∧ s = .ownX R) ∨ (y ≠ x ∧ (y, s) ∈ E) := fun y s m => by
    by_cases z : y = x
    · subst z; exact .inl ⟨rfl, nd_slot nd' m h2⟩
    · rcases h4 _ m with w | w
      · exact absurd (Prod.mk.inj w).1 z
      · exact .inr ⟨z, w⟩
  have ixu : ∀ {y : Str} {j k : Nat}, C.N[j]? = some y → C.N[k]? = some y → j = k := fun a b => nodup_ix nd a b
  have far : ∀ y s, (y, s) ∈ E → y ≠ x → s.isOwn → α y ≠ q := fun y s m ne o => by
    obtain ⟨j, f1, f2⟩ := e1 y s m
    refine hnew y s (α y) m ne o fun j' hj' => ?_
    obtain rfl := ixu f1 hj'
    cases s with
    | own _ => exact f2.1
    | ownD _ => exact f2.1
    | ownX _ => exact f2.1
    | _ => exact o.elim
  refine ⟨he.gr, he.ln, he.st, nd', fun y => if y = x then q else α y, fun y s m => ?_, fun y z s t m1 m2 o1 o2 ee => ?_⟩
  · rcases key y s m with ⟨rfl, rfl⟩ | ⟨ne, m'⟩
    · refine ⟨i, hi, ?_⟩
      dsimp only
      rw [if_pos rfl]
      refine ⟨?_, hG, h0, hf, ob, hH, r⟩
      rw [List.getElem?_set_self]
      rw [hl]
      exact (List.getElem?_eq_some_iff.mp hi).1
    · obtain ⟨j, f1, f2⟩ := e1 y s m'
      refine ⟨j, f1, ?_⟩
      have : i ≠ j := fun q => ne (by subst q; rw [hi] at f1; exact (Option.some.inj f1).symm)
      dsimp only
      rw [List.getElem?_set_ne this, if_neg ne]
      exact f2
  · dsimp only at ee
    rcases key y s m1 with ⟨rfl, rfl⟩ | ⟨n1, m1'⟩
    · rcases key z t m2 with ⟨rfl, rfl⟩ | ⟨n2, m2'⟩
      · rfl
      · rw [if_pos rfl, if_neg n2] at ee
        exact absurd ee.symm (far z t m2' n2 o2)
    · rcases key z t m2 with ⟨rfl, rfl⟩ | ⟨n2, m2'⟩
      · rw [if_pos rfl, if_neg n1] at ee
        exact absurd ee (far y s m1' n1 o1)
      · rw [if_neg n1, if_neg n2] at ee
        exact e2 y z s t m1' m2' o1 o2 ee
end
/-! ### dicts whose keys are tuples: raw -/
mutual
/-- a datum as a key -/
def kyD : D → Option NestedKey
  | .non => some .none
  | .bl b => some (.num (if b = true then 1 else 0))
  | .int i => some (.num i)
  | .str s => some (.text s)
  | .tup l => (kyA l).map NestedKey.tup
  | .lst _ | .dct _ | .fdc _ | .ty _ | .obj _ => none
def kyA : List D → Option (List NestedKey)
  | [] => some []
  | d :: l => (kyD d).bind fun k => (kyA l).map fun ks => k :: ks
end
mutual
theorem ky_is {X : Cx} {pins : List (Addr × Obj)} {σ : L2.St} {H : Hp} {s : Shared} (I : L2.Inv X pins σ H s) {G : Hp} (kn : Kn G H) : ∀ {d : D} {k : NestedKey} {v : V} {u : Value}, kyD d = some k → Rp X.K G d v → RelV v u → NestedIs s.heap k u
  | .non, k, v, u, e, r, rv => by
    unfold kyD at e; cases e; simp only [Rp] at r; subst r
    obtain rfl : u = Value.none := rv
    exact .none
  | .bl b, k, v, u, e, r, rv => by
    unfold kyD at e; cases e; simp only [Rp] at r; subst r
    obtain rfl : u = Value.bool b := rv
    exact .bool rfl
  | .int i, k, v, u, e, r, rv => by
    unfold kyD at e; cases e; simp only [Rp] at r; subst r
    obtain ⟨t, rfl⟩ := rv
    exact .int i t
  | .str x, k, v, u, e, r, rv => by
    unfold kyD at e; cases e; simp only [Rp] at r; subst r
    obtain ⟨t, rfl⟩ := rv
    exact .text x t
  | .tup l, k, v, u, e, r, rv => by
    unfold kyD at e
    obtain ⟨ks, hks, rfl⟩ := Option.map_eq_some_iff.mp e
    simp only [Rp] at r
    obtain ⟨z, xs, rfl, h1, h2⟩ := r
    obtain rfl : u = Value.ref z := rv
    obtain ⟨its, rv2, ⟨o, ho, hc, n, hd⟩, _⟩ := I.tuple (Kn.sqT kn h1)
    refine .tup ho hc hd ?_
    have := kyA_is I kn hks h2 rv2
    simpa using this
  | .lst _, _, _, _, e, _, _ | .dct _, _, _, _, e, _, _ | .fdc _, _, _, _, e, _, _ | .ty _, _, _, _, e, _, _ | .obj _, _, _, _, e, _, _ => by unfold kyD at e; cases e
theorem kyA_is {X : Cx} {pins : List (Addr × Obj)} {σ : L2.St} {H : Hp} {s : Shared} (I : L2.Inv X pins σ H s) {G : Hp} (kn : Kn G H) : ∀ {l : List D} {ks : List NestedKey} {vs : List V} {us : List Value}, kyA l = some ks → RpA X.K G l vs → Vals vs us → NestedAll s.heap ks us
  | [], ks, vs, us, e, r, rv => by
    unfold kyA at e; cases e
    rw [RpA.nil_iff] at r; subst r
    cases rv
    exact .nil
  | d :: l, ks, vs, us, e, r, rv => by
    unfold kyA at e
    obtain ⟨k, hk, e⟩ := Option.bind_eq_some_iff.mp e
    obtain ⟨ks', hks, rfl⟩ := Option.map_eq_some_iff.mp e
    rw [RpA.cons_iff] at r
    obtain ⟨v, vr, rfl, r1, r2⟩ := r
    cases rv with
    | cons h t => exact .cons (ky_is I kn hk r1 h) (kyA_is I kn hks r2 t)
end
/-- at a stands a dict with these entries -/
def dictE (P : Program) (w : World) (a : Addr) (xs : List (NestedKey × Addr × Value)) : Heap → Prop := fun h =>
  xs.length ≤ sizeLine ∧ (a == sysModules) = false ∧ ∃ o es ep, h.get? a = some o ∧ o.ExactDict ∧ o.data = .dict es ep ∧ es.toList = xs.map (entryOfKey (nestedKind P w)) ∧ (xs.map (·.1)).Nodup
def RpX (K : PySem.W.Frag) (G : Hp) (p : D × D) (x : NestedKey × Addr × Value) : Prop := kyD p.1 = some x.1 ∧ x.1.depth ≤ 8 ∧ Rp K G p.1 (.ref x.2.1) ∧ ∃ v, Rp K G p.2 v ∧ RelV v x.2.2
theorem RpX.mono {K : PySem.W.Frag} {G G' : Hp} {p : D × D} {x : NestedKey × Addr × Value} (kn : Kn G G') (h : RpX K G p x) : RpX K G' p x :=
  ⟨h.1, h.2.1, h.2.2.1.mono kn, let ⟨v, a, b⟩ := h.2.2.2; ⟨v, a.mono kn, b⟩⟩
theorem rpx_mono {K : PySem.W.Frag} {G G' : Hp} (kn : Kn G G') {l : List (D × D)} {xs : List (NestedKey × Addr × Value)} (h : Paired (RpX K G) l xs) : Paired (RpX K G') l xs := Paired.mapP h fun _ _ z => z.mono kn
/-- a dict with tuple keys, told by its keys and values -/
def oT (P : Program) (w : World) (K : PySem.W.Frag) (l : List (D × D)) : OwnR where
  rep := fun G a o => ∃ xs, o = .ext (dictE P w a xs) ∧ Paired (RpX K G) l xs
  mono := fun kn ⟨xs, e, h⟩ => ⟨xs, e, rpx_mono kn h⟩
def hasT (l : List (D × D)) (d : D) : Bool := l.any fun p => decide (kyD p.1 = kyD d)
def getT (l : List (D × D)) (d : D) : Option D := (l.find? fun p => decide (kyD p.1 = kyD d)).map (·.2)
def putT (l : List (D × D)) (d v : D) : List (D × D) := if hasT l d = true then l.map (fun p => if kyD p.1 = kyD d then (p.1, v) else p) else l ++ [(d, v)]
theorem rpx_has {K : PySem.W.Frag} {G : Hp} {d : D} {k : NestedKey} (e : kyD d = some k) : ∀ {l : List (D × D)} {xs : List (NestedKey × Addr × Value)}, Paired (RpX K G) l xs → (atKey xs k).isSome = hasT l d := by
  intro l xs h
  induction h with
  | nil => rfl
  | @cons p x l xs r _ ih =>
    unfold hasT atKey at *
    rw [List.any_cons, List.find?_cons, r.1, e]
    by_cases z : x.1 = k
    · rw [decide_eq_true z, decide_eq_true (by rw [z])]; rfl
    · rw [decide_eq_false z, decide_eq_false (fun q => z (Option.some.inj q)), Bool.false_or]
      rw [e] at ih
      exact ih
theorem rpx_get {K : PySem.W.Frag} {G : Hp} {d : D} {k : NestedKey} (e : kyD d = some k) : ∀ {l : List (D × D)} {xs : List (NestedKey × Addr × Value)}, Paired (RpX K G) l xs →
    (∀ v, getT l d = some v → ∃ p w, atKey xs k = some p ∧ Rp K G v w ∧ RelV w p.2) ∧ (getT l d = none → atKey xs k = none) := by
  intro l xs h
  induction h with
  | nil => exact ⟨fun v q => (by cases q), fun _ => rfl⟩
  | @cons p x l xs r _ ih =>
    unfold getT atKey at *
    rw [List.find?_cons, List.find?_cons, r.1, e]
    rw [e] at ih
    by_cases z : x.1 = k
    · rw [decide_eq_true z, decide_eq_true (by rw [z])]
      refine ⟨fun v q => ?_, fun q => by cases q⟩
      cases q
      obtain ⟨w, r1, r2⟩ := r.2.2.2
      exact ⟨x.2, w, rfl, r1, r2⟩
    · rw [decide_eq_false z, decide_eq_false (fun q => z (Option.some.inj q))]
      exact ih
theorem rpx_repl {K : PySem.W.Frag} {G : Hp} {d v : D} {k : NestedKey} {w : V} {u : Value} (e : kyD d = some k) (hv : Rp K G v w) (hu : RelV w u) : ∀ {l : List (D × D)} {xs : List (NestedKey × Addr × Value)}, Paired (RpX K G) l xs →
    Paired (RpX K G) (l.map fun p => if kyD p.1 = kyD d then (p.1, v) else p) (xs.map (putAt k u)) := by
  intro l xs h
  induction h with
  | nil => exact .nil
  | @cons p x l xs r _ ih =>
    rw [List.map_cons, List.map_cons]
    refine .cons ?_ ih
    unfold putAt
    rw [r.1, e]
    by_cases z : x.1 = k
    · rw [if_pos z, if_pos (by rw [z])]; exact ⟨r.1, r.2.1, r.2.2.1, w, hv, hu⟩
    · rw [if_neg z, if_neg (fun q => z (Option.some.inj q))]; exact r
theorem rpx_put {K : PySem.W.Frag} {G : Hp} {d v : D} {k : NestedKey} {b : Addr} {w : V} {u : Value} (e : kyD d = some k) (hk : k.depth ≤ 8) (hb : Rp K G d (.ref b)) (hv : Rp K G v w) (hu : RelV w u) {l : List (D × D)} {xs : List (NestedKey × Addr × Value)} (h : Paired (RpX K G) l xs) :
    Paired (RpX K G) (putT l d v) (storedH xs k b u) := by
  have q := rpx_has e h
  unfold putT storedH
  rw [← q]
  by_cases z : (atKey xs k).isSome = true
  · rw [if_pos z, if_pos z]; exact rpx_repl e hv hu h
  · rw [if_neg z, if_neg z]; exact Paired.snoc h ⟨e, hk, hb, w, hv, hu⟩
section
variable {X : Cx} {pins : List (Addr × Obj)} {σ : L2.St} {H : Hp} {s : Shared} {a b : Addr} {G : Hp} {l : List (D × D)} {xs : List (NestedKey × Addr × Value)} {d : D} {k : NestedKey} {A : Around} {E : Value → Shared → Prop}
theorem dx_of (I : L2.Inv X pins σ H s) (kn : Kn G H) (h : Rd H a (.ext (dictE X.prog X.w a xs))) (r : Paired (RpX X.K G) l xs) :
    xs.length ≤ sizeLine ∧ (a == sysModules) = false ∧ s.heap.DictOfH (nestedKind X.prog X.w) a xs := by
  obtain ⟨⟨z, y, o, es, ep, h1, h2, h3, h4, h5⟩, -⟩ := (show ObjOk X.prog X.w H s.heap a (.ext (dictE X.prog X.w a xs)) from h.ok I.hok)
  refine ⟨z, y, o, es, ep, h1, h2, h3, h4, ?_, h5⟩
  clear h h1 h2 h3 h4 h5 z
  induction r with
  | nil => intro x hx; exact nomatch hx
  | @cons p x l xs q t ih =>
    intro y hy
    rcases List.mem_cons.mp hy with e | hy
    · subst e
      exact ⟨ky_is I kn q.1 q.2.2.1 rfl, q.2.1⟩
    · exact ih y hy
theorem ext_ok {P : Program} {w : World} {H' : Hp} {h' : Heap} (h : dictE P w a xs h') : ObjOk P w H' h' a (.ext (dictE P w a xs)) := by
  obtain ⟨z, y, o, es, ep, h1, h2⟩ := id h
  exact ⟨h, ⟨o, h1⟩, fun x1 x2 ⟨z, y, o, es, ep, h1, h2⟩ q => ⟨z, y, o, es, ep, q o h1, h2⟩⟩
/-- a[b] = u -/
theorem d_putX {u : Value} {Q : Unit → Shared → Prop} (hu : A.units + 10 < cLine) (I : L2.Inv X pins σ H s) (kn : Kn G H) (h : H a = some (.ext (dictE X.prog X.w a xs))) (r : Paired (RpX X.K G) l xs)
    (e : kyD d = some k) (hk : k.depth ≤ 8) (hb : Rp X.K G d (.ref b)) (hl : l.length < sizeLine) (q : ∀ s', L2.Inv X pins σ (upd H a (.ext (dictE X.prog X.w a (storedH xs k b u)))) s' → Q () s') :
    wpAny (model X.prog X.w) A (setItem (.ref a) (.ref b) u) Q E s := by
  obtain ⟨z, hd, dd⟩ := dx_of I kn (.inl h) r
  have hkey : (nestedKind X.prog X.w).is s.heap k b := ⟨ky_is I kn e hb rfl, hk⟩
  refine wpAny_setItem_heap (hsz := z) (show A.in1.units + 8 < cLine by simp only [Around.in1_units]; omega) hkey dd fun h' dd' hs => q _ ?_
  obtain ⟨o, es, ep, hq, h2, h3, h4, _, h5⟩ := dd'
  refine d_write I (by rw [h]; exact True.intro) hs ⟨o, hq⟩ (ext_ok ⟨?_, hd, o, es, ep, hq, h2, h3, h4, h5⟩)
  have h6 := Paired.length r
  have h7 := storedH_length xs k b u
  omega
theorem d_inX {Q : Value → Shared → Prop} (hu : A.units + 10 < cLine) (I : L2.Inv X pins σ H s) (kn : Kn G H) (h : Rd H a (.ext (dictE X.prog X.w a xs))) (r : Paired (RpX X.K G) l xs)
    (e : kyD d = some k) (hk : k.depth ≤ 8) (hb : Rp X.K G d (.ref b)) (q : ∀ s', L2.Inv X pins σ H s' → Q (.bool (hasT l d)) s') : wpAny (model X.prog X.w) A (compareOp .In (.ref b) (.ref a)) Q E s := by
  obtain ⟨z, hd, dd⟩ := dx_of I kn h r
  have hkey : (nestedKind X.prog X.w).is s.heap k b := ⟨ky_is I kn e hb rfl, hk⟩
  refine wpAny_in_heap (show A.in1.units + 8 < cLine by simp only [Around.in1_units]; omega) hkey hd dd ?_
  rw [rpx_has e r]
  exact q _ (I.tok _)
theorem d_notInX {Q : Value → Shared → Prop} (hu : A.units + 10 < cLine) (I : L2.Inv X pins σ H s) (kn : Kn G H) (h : Rd H a (.ext (dictE X.prog X.w a xs))) (r : Paired (RpX X.K G) l xs)
    (e : kyD d = some k) (hk : k.depth ≤ 8) (hb : Rp X.K G d (.ref b)) (q : ∀ s', L2.Inv X pins σ H s' → Q (.bool (!hasT l d)) s') : wpAny (model X.prog X.w) A (compareOp .NotIn (.ref b) (.ref a)) Q E s := by
  obtain ⟨z, hd, dd⟩ := dx_of I kn h r
  have hkey : (nestedKind X.prog X.w).is s.heap k b := ⟨ky_is I kn e hb rfl, hk⟩
  refine wpAny_notIn_heap (show A.in1.units + 8 < cLine by simp only [Around.in1_units]; omega) hkey hd dd ?_
  rw [rpx_has e r]
  exact q _ (I.tok _)
end
end L3
namespace PySem
open Sem (wp)
open SeqAt
section
variable {prog : Program} {w : World} {A : Around} {E : Value → Shared → Prop} {s : Shared}
/-! ### None is no key of a dict whose keys are tuples -/
theorem mayTell_none {stored : List Value} {Q : Bool → Shared → Prop} (hst : ∀ v ∈ stored, ∃ k b, v = .ref b ∧ (nestedKind prog w).is s.heap k b) (h : Q false s) : wpAny (model prog w) A (tableMayTell .none stored) Q E s := by
  unfold tableMayTell
  split
  · exact wpAny_pure h
  · refine wpAny_bind (QuietAt.byValue (prog := prog) (w := w) (n := 8) (s := s) (v := .none) rfl _ _ _ ?_)
    simp only [Bool.not_true, Bool.false_eq_true, if_false]
    refine wpAny_bind ?_
    refine wpAny_forIn_list _ (fun rest r s' => s' = s ∧ r = (none, ()) ∧ ∀ v ∈ rest, ∃ k' b, v = .ref b ∧ (nestedKind prog w).is s.heap k' b) _ ?_ ?_ _ _ ⟨rfl, rfl, hst⟩
    · rintro x rest r s' ⟨rfl, rfl, hr⟩
      obtain ⟨k', b, rfl, hb⟩ := hr x List.mem_cons_self
      refine wpAny_bind ((nestedKind prog w).quiet hb ?_)
      simp only [Bool.not_true, Bool.false_eq_true, if_false]
      exact wpAny_pure ⟨rfl, rfl, fun v hv => hr v (List.mem_cons_of_mem _ hv)⟩
    · rintro r s' ⟨rfl, rfl, _⟩
      exact wpAny_pure h
theorem dictFind_none {d : Addr} {o : Obj} {es ep} {xs : List (NestedKey × Addr × Value)} {hh : Int} {Q : Option Nat → Shared → Prop} (hu : A.units + 8 < cLine)
    (ho : s.heap.get? d = some o) (hd : o.data = .dict es ep) (he : es.toList = xs.map (entryOfKey (nestedKind prog w))) (his : ∀ x ∈ xs, (nestedKind prog w).is s.heap x.1 x.2.1) (h : Q none s) :
    wpAny (model prog w) A (dictFind d .none hh) Q E s := by
  have hmem : ∀ e ∈ es, ∃ x ∈ xs, e = entryOfKey (nestedKind prog w) x := by
    intro e hin
    have : e ∈ xs.map (entryOfKey (nestedKind prog w)) := he ▸ Array.mem_toList_iff.mpr hin
    obtain ⟨x, hx, rfl⟩ := List.mem_map.mp this
    exact ⟨x, hx, rfl⟩
  have hst : ∀ v ∈ (placesWithHash es.size (fun i => es[i]?.map (·.hash)) hh).filterMap (fun i => es[i]?.map (·.key)), ∃ k' b, v = .ref b ∧ (nestedKind prog w).is s.heap k' b := by
    intro v hv
    obtain ⟨i, _, hi⟩ := List.mem_filterMap.mp hv
    cases hei : es[i]? with
    | none => rw [hei] at hi; cases hi
    | some e =>
      rw [hei] at hi
      obtain rfl : e.key = v := by simpa using hi
      obtain ⟨x, hx, rfl⟩ := hmem e (Array.mem_of_getElem? hei)
      exact ⟨x.1, x.2.1, rfl, his x hx⟩
  have hat : ∀ (i : Nat) (e : DictEntry), es[i]? = some e → ∃ (k : NestedKey) (b : Addr), e.key = .ref b ∧ (nestedKind prog w).is s.heap k b := fun i e hei => by
    obtain ⟨x, hx, rfl⟩ := hmem e (Array.mem_of_getElem? hei)
    exact ⟨x.1, x.2.1, rfl, his x hx⟩
  unfold dictFind
  try with_reducible refine wpAny_holding ?_
  refine wpAny_bind (wpAny_dictEntries ho hd ?_)
  dsimp only
  by_cases hp : ((Value.none :: (placesWithHash es.size (fun i => es[i]?.map (·.hash)) hh).filterMap (fun i => es[i]?.map (·.key))).all carriedByValue) = true
  · rw [if_pos hp]
    have hnil : (placesWithHash es.size (fun i => es[i]?.map (·.hash)) hh).filterMap (fun i => es[i]?.map (·.key)) = [] := by
      cases hq : (placesWithHash es.size (fun i => es[i]?.map (·.hash)) hh).filterMap (fun i => es[i]?.map (·.key)) with
      | nil => rfl
      | cons v r =>
        obtain ⟨k', b, rfl, _⟩ := hst v (by rw [hq]; exact List.mem_cons_self)
        rw [hq] at hp
        simp [carriedByValue] at hp
    unfold dictWalkPlain
    refine wpAny_bind ?_
    try refine wpAny_bind ?_
    refine wpAny_forIn_list _ (fun rest r s' => s' = s ∧ r = (none, ()) ∧ ∀ i ∈ rest, es[i]? = none) _ ?_ ?_ _ _ ⟨rfl, rfl, fun i hi => ?_⟩
    · rintro i rest r s' ⟨rfl, rfl, hr⟩
      rw [hr i List.mem_cons_self]
      exact wpAny_pure ⟨rfl, rfl, fun j hj => hr j (List.mem_cons_of_mem _ hj)⟩
    · rintro r s' ⟨rfl, rfl, _⟩
      exact wpAny_pure h
    · cases hei : es[i]? with
      | none => rfl
      | some e =>
        have : e.key ∈ (placesWithHash es.size (fun i => es[i]?.map (·.hash)) hh).filterMap (fun i => es[i]?.map (·.key)) := List.mem_filterMap.mpr ⟨i, hi, by rw [hei]; rfl⟩
        rw [hnil] at this
        cases this
  · rw [if_neg hp]
    by_cases hone : (((placesWithHash es.size (fun i => es[i]?.map (·.hash)) hh).filterMap (fun i => es[i]?.map (·.key))) == [Value.none]) = true <;>
    (first | rw [if_pos hone] | rw [if_neg hone]) <;> (first | refine wpAny_bind (wpAny_pure ?_) | refine wpAny_bind (mayTell_none hst ?_)) <;> (
      rw [if_neg (by simp)]
      refine wpAny_bind ?_
      refine wpAny_forIn_list _ (fun rest r s' => s' = s ∧ r = (none, none)) _ ?_ ?_ _ _ ⟨rfl, rfl⟩
      · rintro i rest r s' ⟨rfl, rfl⟩
        cases hei : es[i]? with
        | none => exact wpAny_pure ⟨rfl, rfl⟩
        | some e =>
          obtain ⟨k, b, hk, hb⟩ := hat i e hei
          dsimp only
          by_cases hq : (e.hash == hh) = true
          · rw [if_pos hq, hk]
            refine wpAny_bind (wpAny_dictEpoch ho hd (wpAny_bind (eqAt_key k .none A s' (.ref b) .none hb.1 .none (by simp only [NestedKey.depth, Nat.min_zero]; omega) _ _ _ _ ?_)))
            have hf : NestedKey.beq k .none = false := by
              cases k with
              | none => cases hb.1
              | _ => rfl
            rw [hf]
            refine wpAny_bind (wpAny_dictEpoch ho hd ?_)
            rw [if_neg (show ¬ (ep != ep) = true by simp)]
            simp only [Bool.false_eq_true, if_false]
            refine wpAny_bind (wpAny_rule ?_)
            first | rw [if_neg (by simp)] | skip
            first
              | exact wpAny_pure ⟨rfl, rfl⟩
              | exact wpAny_bind (wpAny_pure (wpAny_pure ⟨rfl, rfl⟩))
          · rw [if_neg hq]
            exact wpAny_pure ⟨rfl, rfl⟩
      · rintro r s' ⟨rfl, rfl⟩
        exact wpAny_pure h)
theorem dictGet_none {d : Addr} {xs : List (NestedKey × Addr × Value)} {Q : Option Value → Shared → Prop} (hu : A.units + 9 < cLine) (hm : s.heap.DictOfH (nestedKind prog w) d xs) (h : Q none { s with toks := s.toks + 1 }) :
    wpAny (model prog w) A (dictGet d .none) Q E s := by
  obtain ⟨o, es, ep, ho, _, hd, he, his, hn⟩ := hm
  unfold dictGet
  try with_reducible refine wpAny_holding ?_
  refine wpAny_bind (pyHash_key .none .none A s _ .none (by simp only [NestedKey.depth]; omega) (wpAny_bind (dictFind_none (s := { s with toks := s.toks + 1 }) (by omega) ho hd he his ?_)))
  exact wpAny_pure h
theorem meets_get_none (d : Addr) (hd : (d == sysModules) = false) :
    MeetsIn prog w (Builtin.«dict.get» ⟨[.ref d, .none], []⟩) (fun A R s => A.in1.units + 9 < cLine ∧ ∃ xs, s.heap.DictOfH (nestedKind prog w) d xs ∧ R (.ok (.ret .none)) { s with toks := s.toks + 1 }) :=
  .of_wp fun A R s ⟨hu, xs, hm, h⟩ => by
    show wpAny _ _ (dictGet d .none >>= _) _ _ s
    refine wpAny_bind (dictGet_none hu hm ?_)
    show wpAny _ _ (Builtin.Dict.missed d .none >>= _) _ _ _
    exact wpAny_bind (wpAny_missed_other hd (wpAny_pure ⟨.none, rfl, h⟩))
end
end PySem
namespace L3
open PySem PySem.Spec PyProof.Rows L2
/-- d is a tuple, and a key of no great depth -/
def KyOk (d : D) : Prop := ∃ ds k, d = .tup ds ∧ kyD d = some k ∧ k.depth ≤ 8
def rInX (C : SC) (neg : Bool) : L2.R2 := fun x y H Q => ∃ (G : Hp) (d : D) (k : NestedKey) (a b : Addr) (l : List (D × D)) (xs : List (NestedKey × Addr × Value)), Kn G H ∧ x = .ref b ∧ y = .ref a ∧ Rd H a (.ext (dictE C.P C.w a xs)) ∧ Paired (RpX C.K G) l xs ∧
  kyD d = some k ∧ k.depth ≤ 8 ∧ Rp C.K G d (.ref b) ∧ Q (.bl (if neg = true then !hasT l d else hasT l d)) H
theorem op_inX {C : SC} {X : Cx} (hX : Has C X) (neg : Bool) {op : CmpOp} (hop : op = if neg = true then .NotIn else .In) : OpR X (compareOp op) (rInX C neg) := by
  obtain ⟨j, nm, rfl, hO, hK⟩ := id hX
  have hu := Has.hu hK
  rintro pins s σ H x y v u Q I rx ry ⟨G, d, k, a, b, l, xs, kn, rfl, rfl, h1, h2, h3, h4, h5, q⟩
  obtain rfl : v = Value.ref b := rx
  obtain rfl : u = Value.ref a := ry
  cases neg
  · subst hop
    simp only [Bool.false_eq_true, if_false] at q
    exact d_inX (by omega) I kn h1 h2 h3 h4 h5 fun s' I' => ⟨.bl _, H, I', rfl, q⟩
  · subst hop
    simp only [if_true] at q
    exact d_notInX (by omega) I kn h1 h2 h3 h4 h5 fun s' I' => ⟨.bl _, H, I', rfl, q⟩
section
variable {C : SC} {A : Amb} {E : NE} {u : A.U} {pos p apos spos cpos p2 : Pos} {e a b : Expr} {P : Post A} {Φ : D → A.U → Prop} {Ψ : Bool → A.U → Prop} {x : Str} {l : List (D × D)} {kd : NameKind}
theorem at_inX (neg : Bool) (hm : XAt E x (oT C.P C.w C.K l)) (h : EvK C A a E u fun d u1 => KyOk d ∧ Φ (.bl (if neg = true then !hasT l d else hasT l d)) u1) {i : Nat} (hN : C.N.Nodup) (hi : C.N[i]? = some x) :
    ∀ G0 H0 G H σ, Env C A G0 H0 u G H E σ → ∀ Q : VK, (∀ d u' v G' H', Φ d u' → Grow (A.foot u) (A.foot u') G H G' H' → A.st u' G' H' → Rp C.K G' d v → Q v H') → tOp (rInX C neg) (rE C a) (tVar i) σ H Q := by
  intro G0 H0 G H σ he Q q
  obtain ⟨i', z, ob, hi', hσ, hH, ⟨xs, rfl, hr⟩, hG⟩ := he.atX hm
  obtain rfl : i = i' := nodup_ix hN hi hi'
  refine h G0 H0 G H σ he _ fun d u1 v G1 H1 ⟨⟨ds, k, e1, e2, e3⟩, q1⟩ g st r => ?_
  refine ⟨.ref z, hσ, ?_⟩
  subst e1
  have r' := r
  simp only [Rp] at r'
  obtain ⟨b, ys, rfl, _, _⟩ := r'
  exact ⟨G1, _, k, z, b, l, xs, g.gh, rfl, rfl, .inl (x_keep g hG hH), rpx_mono g.gg hr, e2, e3, r, q _ u1 _ G1 H1 q1 g st (by simp only [Rp])⟩
theorem k_inX (neg : Bool) {op : CmpOp} (hop : op = if neg = true then .NotIn else .In) (hm : XAt E x (oT C.P C.w C.K l)) (hn : Nm C.nm x kd) (hv : VisK kd) (h : EvK C A a E u fun d u1 => KyOk d ∧ Φ (.bl (if neg = true then !hasT l d else hasT l d)) u1)
    (hb : behindInMarks op (.Name x p) = false) (hd : (x == ("__debug__" : Str)) = false := by decide +kernel) (hc : (x == ("__classdict__" : Str)) = false := by decide +kernel) : EvK C A (.Compare a [op] [.Name x p] pos) E u Φ := by
  intro G0 H0 G H σ he Q q X pins s hX I
  obtain ⟨i, pv, hi⟩ := own_varX (p := p) hX he hm hn hv hd hc
  obtain ⟨j, nm, rfl, hO, hK⟩ := id hX
  exact (pe_cmpR (op_inX hX neg hop) (pe_of hX a) pv hb).run pins s σ H Q I (at_inX neg hm h hK.nd hi G0 H0 G H σ he Q q)
theorem t_inX (neg : Bool) {op : CmpOp} (hop : op = if neg = true then .NotIn else .In) (hm : XAt E x (oT C.P C.w C.K l)) (hn : Nm C.nm x kd) (hv : VisK kd) (h : EvK C A a E u fun d u1 => KyOk d ∧ Ψ (if neg = true then !hasT l d else hasT l d) u1)
    (hb : behindInMarks op (.Name x p) = false) (hd : (x == ("__debug__" : Str)) = false := by decide +kernel) (hc : (x == ("__classdict__" : Str)) = false := by decide +kernel) : EvT C A (.Compare a [op] [.Name x p] pos) E u Ψ := by
  intro G0 H0 G H σ he Q q X pins s hX I
  obtain ⟨i, pv, hi⟩ := own_varX (p := p) hX he hm hn hv hd hc
  obtain ⟨j, nm, rfl, hO, hK⟩ := id hX
  refine (pt_cmpR (op_inX hX neg hop) (pe_of hX a) pv hb).run pins s σ H Q I ?_
  refine at_inX (Φ := fun d u' => ∃ k, d = .bl k ∧ Ψ k u') neg hm (h.imp fun d u' ⟨z1, z2⟩ => ⟨z1, _, rfl, z2⟩) hK.nd hi G0 H0 G H σ he _ fun d u' v G' H' ⟨k, ek, pk⟩ g st r => ?_
  subst ek
  simp only [Rp] at r
  subst r
  exact ⟨k, rfl, q k u' G' H' pk g st⟩
theorem k_inT (hm : XAt E x (oT C.P C.w C.K l)) (hn : Nm C.nm x kd) (hv : VisK kd) (h : EvK C A a E u fun d u1 => KyOk d ∧ Φ (.bl (hasT l d)) u1) (hb : behindInMarks .In (.Name x p) = false := by rfl)
    (hd : (x == ("__debug__" : Str)) = false := by decide +kernel) (hc : (x == ("__classdict__" : Str)) = false := by decide +kernel) : EvK C A (.Compare a [.In] [.Name x p] pos) E u Φ := k_inX false rfl hm hn hv h hb hd hc
theorem k_ninT (hm : XAt E x (oT C.P C.w C.K l)) (hn : Nm C.nm x kd) (hv : VisK kd) (h : EvK C A a E u fun d u1 => KyOk d ∧ Φ (.bl (!hasT l d)) u1) (hb : behindInMarks .NotIn (.Name x p) = false := by rfl)
    (hd : (x == ("__debug__" : Str)) = false := by decide +kernel) (hc : (x == ("__classdict__" : Str)) = false := by decide +kernel) : EvK C A (.Compare a [.NotIn] [.Name x p] pos) E u Φ := k_inX true rfl hm hn hv h hb hd hc
theorem t_inT (hm : XAt E x (oT C.P C.w C.K l)) (hn : Nm C.nm x kd) (hv : VisK kd) (h : EvK C A a E u fun d u1 => KyOk d ∧ Ψ (hasT l d) u1) (hb : behindInMarks .In (.Name x p) = false := by rfl)
    (hd : (x == ("__debug__" : Str)) = false := by decide +kernel) (hc : (x == ("__classdict__" : Str)) = false := by decide +kernel) : EvT C A (.Compare a [.In] [.Name x p] pos) E u Ψ := t_inX false rfl hm hn hv h hb hd hc
theorem t_ninT (hm : XAt E x (oT C.P C.w C.K l)) (hn : Nm C.nm x kd) (hv : VisK kd) (h : EvK C A a E u fun d u1 => KyOk d ∧ Ψ (!hasT l d) u1) (hb : behindInMarks .NotIn (.Name x p) = false := by rfl)
    (hd : (x == ("__debug__" : Str)) = false := by decide +kernel) (hc : (x == ("__classdict__" : Str)) = false := by decide +kernel) : EvT C A (.Compare a [.NotIn] [.Name x p] pos) E u Ψ := t_inX true rfl hm hn hv h hb hd hc
/-- x[a] = e, x an own dict with tuple keys -/
def sXPut (C : SC) (td ty tv : TE) : TS := fun De σ H => tv σ H fun v H1 => td σ H1 fun x H2 => ty σ H2 fun y H3 => ∃ (a b : Addr) (G : Hp) (l : List (D × D)) (xs : List (NestedKey × Addr × Value)) (d : D) (k : NestedKey), x = .ref a ∧ y = .ref b ∧ Kn G H3 ∧ H3 a = some (.ext (dictE C.P C.w a xs)) ∧ Paired (RpX C.K G) l xs ∧
  kyD d = some k ∧ k.depth ≤ 8 ∧ Rp C.K G d (.ref b) ∧ l.length < sizeLine ∧ ∀ w, RelV v w → De.nx σ (upd H3 a (.ext (dictE C.P C.w a (storedH xs k b w))))
theorem ps_xput {X : Cx} {o i value : Expr} {pos' : Pos} {td ty tv : TE} (hX : Has C X) (ho : PE X o td) (hi : PE X i ty) (hv : PE X value tv) (hs : swapsWith value (some (.Subscript o i pos')) pos.line X.env = pure false) :
    PS X (.Assign [.Subscript o i pos'] value pos) (sXPut C td ty tv) := by
  obtain ⟨j, nm, rfl, hO, hK⟩ := id hX
  have hu := Has.hu hK
  refine ⟨fun pins s σ H De I h => ?_⟩
  refine wpAny_Assign_Subscript (thn (hv.run pins s σ H _ I h) fun r s1 ⟨v, H1, I1, rv, q1⟩ => thn (ho.run pins s1 σ H1 _ I1 q1) fun u s2 ⟨x, H2, I2, rx, q2⟩ => thn (hi.run pins s2 σ H2 _ I2 q2) fun iv s3 ⟨y, H3, I3, ry, a, b, G, l, xs, d, k, ex, ey, kn, h1, h2, h3, h4, h5, h6, q3⟩ => ?_) hs
  subst ex ey
  obtain rfl : u = Value.ref a := rx
  obtain rfl : iv = Value.ref b := ry
  exact d_putX (by omega) I3 kn h1 h2 h3 h4 h5 h6 fun s4 I4 => ⟨σ, _, I4, q3 r rv⟩
theorem s_putX {F : Sl → NE} (hp : Spl E x F) (hm : At E x (.ownX (oT C.P C.w C.K l))) (hn : Nm C.nm x kd) (hv : VisK kd)
    (h : EvK C A e E u fun d u1 => EvK C A a E u1 fun dk u2 => KyOk dk ∧ l.length < sizeLine ∧ P.nx (F (.ownX (oT C.P C.w C.K (putT l dk d)))) u2)
    (hd : (x == ("__debug__" : Str)) = false := by decide +kernel) (hc : (x == ("__classdict__" : Str)) = false := by decide +kernel)
    (hs : ∀ env, swapsWith e (some (.Subscript (.Name x p) a p2)) pos.line env = pure false := by intro _; rfl) :
    StK C A (.Assign [.Subscript (.Name x p) a p2] e pos) E u P := by
  intro G0 H0 G H σ Ds he S X pins s hX I
  obtain ⟨i, pv, hi⟩ := own_varX (p := p) hX he (.o hm) hn hv hd hc
  refine (ps_xput hX pv (pe_of hX a) (pe_of hX e) (hs _)).run pins s σ H Ds I ?_
  obtain ⟨jj, nm, rfl, hO, hK⟩ := id hX
  obtain ⟨i', q, ob, hi', hσ, hG, hf, hH, ⟨xs, rfl, hr⟩, _, _⟩ := he.chgX hp hm
  obtain rfl : i = i' := nodup_ix hK.nd hi hi'
  refine h G0 H0 G H σ he _ fun d u1 v1 G1 H1 k1 g1 st1 r1 => ?_
  have he1 := he.go g1 st1
  refine ⟨.ref q, hσ, ?_⟩
  refine k1 G0 H0 G1 H1 σ he1 _ fun dk u2 v2 G2 H2 ⟨⟨ds, k, e1, e2, e3⟩, hl, k2⟩ g2 st2 r2 => ?_
  subst e1
  have r2' := r2
  simp only [Rp] at r2'
  obtain ⟨b, ys, rfl, _, _⟩ := r2'
  have he2 := he1.go g2 st2
  obtain ⟨i3, q3, ob3, hi3, hσ3, hG3, hf3, hH3, ⟨xs3, rfl, hr3⟩, ch, _⟩ := he2.chgX hp hm
  obtain rfl : i = i3 := nodup_ix hK.nd hi hi3
  obtain rfl : q = q3 := by rw [hσ] at hσ3; cases hσ3; rfl
  refine ⟨q, b, G2, l, xs3, _, k, rfl, rfl, he2.kn, hH3, hr3, e2, e3, r2, hl, fun w rw_ => ?_⟩
  exact S.nx _ u2 G2 _ σ k2 (ch (oT X.prog X.w X.K (putT l (.tup ds) d)) _ ⟨_, rfl, rpx_put e2 e3 r2 (r1.mono g2.gg) rw_ hr3⟩)
/-- x.get(a): None where a is no key, and where a is None -/
def tXGet (C : SC) (td ty : TE) : TE := fun σ H Q => td σ H fun x H1 => ∃ (a : Addr) (ys : List (NestedKey × Addr × Value)), x = .ref a ∧ H1 a = some (.ext (dictE C.P C.w a ys)) ∧ ty σ H1 fun y H2 => ∃ (G : Hp) (l : List (D × D)) (xs : List (NestedKey × Addr × Value)), Kn G H2 ∧ H2 a = some (.ext (dictE C.P C.w a xs)) ∧ Paired (RpX C.K G) l xs ∧
  ((y = .non ∧ Q .non H2) ∨ ∃ (b : Addr) (d : D) (k : NestedKey), y = .ref b ∧ kyD d = some k ∧ k.depth ≤ 8 ∧ Rp C.K G d (.ref b) ∧ (∀ v w, getT l d = some v → Rp C.K G v w → Q w H2) ∧ (getT l d = none → Q .non H2))
theorem pe_xget {X : Cx} {o e : Expr} {td ty : TE} (hX : Has C X) (ho : PE X o td) (he : PE X e ty) (m : M1 X o "get" apos e cpos) : PE X (.Call (.Attribute o "get" apos) [e] [] cpos) (tXGet C td ty) := by
  obtain ⟨j, nm, rfl, hO, hK⟩ := id hX
  have hu := Has.hu hK
  refine ⟨fun pins s σ H Q I h => ?_⟩
  refine wpAny_Call_method m.base m.few m.line PySem.F.plainAttrs_dict PySem.F.slot_dict_get PySem.F.type_dict_get (thn (ho.run pins s σ H _ I h) fun u s1 ⟨x, H1, I1, rx, a, ys, ex, hx, q1⟩ => ?_)
  subst ex
  obtain rfl : u = Value.ref a := rx
  obtain ⟨⟨_, _, ob, es, ep, g1, g2, _⟩, _⟩ := (show ObjOk X.prog X.w H1 s1.heap a (.ext (dictE X.prog X.w a ys)) from I1.hok a _ hx)
  refine ⟨⟨ob, g1, g2.1⟩, fun b q => (by cases q; exact ⟨ob, g1, g2.2.1⟩), ?_⟩
  rw [m.trees]
  refine Calls.callWith_builtin rfl (Calls.evalArgs_plain (Calls.spliced_cons (thn (he.run pins s1 σ H1 _ I1 q1) fun iv s2 ⟨y, H2, I2, ry, G, l, xs, kn, h1, h2, q2⟩ => Calls.spliced_nil ?_)))
  obtain ⟨z, hd, dd⟩ := dx_of I2 kn (.inl h1) h2
  rcases q2 with ⟨rfl, q2⟩ | ⟨b, d, k, rfl, h3, h4, h5, q2, q3⟩
  · obtain rfl : iv = Value.none := ry
    refine call_meetsIn PySem.F.slot_dict_get dd.typeIs PySem.F.entry_dict_get (PySem.F.args_dict_get_2 _ _) (meets_get_none (prog := X.prog) (w := X.w) a hd) ⟨by simp only [Around.in1_units]; omega, xs, dd, ?_⟩
    exact ⟨.non, H2, I2.tok _, rfl, q2⟩
  · obtain rfl : iv = Value.ref b := ry
    refine call_meetsIn PySem.F.slot_dict_get dd.typeIs PySem.F.entry_dict_get (PySem.F.args_dict_get_2 _ _) (meetsH_dict_get (nestedKind X.prog X.w) a b hd) ⟨by show X.A.in1.units + 8 < cLine; simp only [Around.in1_units]; omega, k, xs, ⟨ky_is I2 kn h3 h5 rfl, h4⟩, dd, ?_⟩
    obtain ⟨r1, r2⟩ := rpx_get h3 h2
    cases hg : getT l d with
    | none =>
      rw [r2 hg]
      exact ⟨.non, H2, I2.tok _, rfl, q3 hg⟩
    | some v =>
      obtain ⟨pp, w, e1, e2, e3⟩ := r1 v hg
      rw [e1]
      exact ⟨w, H2, I2.tok _, e3, q2 v w hg e2⟩
theorem k_getX (hm : XAt E x (oT C.P C.w C.K l)) (hn : Nm C.nm x kd) (hv : VisK kd) (h : EvK C A e E u fun d u1 => (d = .non ∧ Φ .non u1) ∨ (KyOk d ∧ Φ ((getT l d).getD .non) u1))
    (hs : ∀ env, starEach [e] env = [(false, eval e env)] := by intro _; rfl) (hd : (x == ("__debug__" : Str)) = false := by decide +kernel) (hc : (x == ("__classdict__" : Str)) = false := by decide +kernel)
    (hb : ∀ env, attributeBase (.Name x p) "get" env (eval (.Name x p) env) = eval (.Name x p) env := by intro _; rfl) (hl : (apos.endLine == cpos.line) = true := by rfl) : EvK C A (.Call (.Attribute (.Name x p) "get" apos) [e] [] cpos) E u Φ := by
  intro G0 H0 G H σ he Q q X pins s hX I
  obtain ⟨i, pv, hi⟩ := own_varX (p := p) hX he hm hn hv hd hc
  obtain ⟨i', z, ob, hi', hσ, hH, ⟨xs, rfl, hr⟩, hG⟩ := he.atX hm
  refine (pe_xget hX pv (pe_of hX e) ⟨hb X.env, by rw [hs X.env]; rfl, hl, by rw [hs X.env]; rfl⟩).run pins s σ H Q I ?_
  obtain ⟨j, nm, rfl, hO, hK⟩ := id hX
  obtain rfl : i = i' := nodup_ix hK.nd hi hi'
  refine ⟨.ref z, hσ, z, xs, rfl, hH, ?_⟩
  refine h G0 H0 G H σ he _ fun d u1 v G1 H1 q1 g st r => ?_
  refine ⟨G1, l, xs, g.gh, x_keep g hG hH, rpx_mono g.gg hr, ?_⟩
  rcases q1 with ⟨rfl, q1⟩ | ⟨⟨ds, k, rfl, e2, e3⟩, q1⟩
  · simp only [Rp] at r
    subst r
    exact .inl ⟨rfl, q .non u1 _ G1 H1 q1 g st (by simp only [Rp])⟩
  · have r' := r
    simp only [Rp] at r'
    obtain ⟨b, ys, rfl, _, _⟩ := r'
    refine .inr ⟨b, _, k, rfl, e2, e3, r, fun v w e4 r4 => ?_, fun e4 => ?_⟩
    · rw [e4] at q1; exact q v u1 w G1 H1 q1 g st r4
    · rw [e4] at q1; exact q .non u1 _ G1 H1 q1 g st (by simp only [Rp])
/-- len(x) -/
def rLenX (C : SC) : List V → Hp → VK → Prop := fun xs H Q => ∃ (a : Addr) (G : Hp) (l : List (D × D)) (ys : List (NestedKey × Addr × Value)), xs = [.ref a] ∧ Kn G H ∧ Rd H a (.ext (dictE C.P C.w a ys)) ∧ Paired (RpX C.K G) l ys ∧ Q (.int l.length) H
theorem call_lenX {X : Cx} (hX : Has C X) : CallR X (.builtin "len") (rLenX C) := by
  obtain ⟨j, nm, rfl, hO, hK⟩ := id hX
  intro pins s σ H xs us Q I r h
  obtain ⟨a, G, l, ys, rfl, kn, h1, h2, q⟩ := h
  obtain ⟨u, rfl, rx⟩ := vals1 r
  obtain rfl : u = Value.ref a := rx
  obtain ⟨z, hd, dd⟩ := dx_of I kn h1 h2
  have hl := Paired.length h2
  refine call_len_dictH hd dd (by rw [sizeLine_eq] at z; omega) ⟨.int l.length, H, I.tok _, ⟨_, by rw [hl]⟩, q⟩
theorem k_lenX {q1 : Pos} (hm : XAt E x (oT C.P C.w C.K l)) (hn : Nm C.nm x kd) (hv : VisK kd) (hl : Nm C.nm "len" .globalImplicit) (hg : C.mg "len" = none) (q : Φ (.int l.length) u)
    (hd : (x == ("__debug__" : Str)) = false := by decide +kernel) (hc : (x == ("__classdict__" : Str)) = false := by decide +kernel) : EvK C A (.Call (.Name "len" q1) [.Name x p] [] pos) E u Φ := by
  intro G0 H0 G H σ he Q k X pins s hX I
  obtain ⟨i, pv, hi⟩ := own_varX (p := p) hX he hm hn hv hd hc
  obtain ⟨i', z, ob, hi', hσ, hH, ⟨xs, rfl, hr⟩, hG⟩ := he.atX hm
  have cl := call_lenX hX
  obtain ⟨j, nm, rfl, hO, hK⟩ := id hX
  obtain rfl : i = i' := nodup_ix hK.nd hi hi'
  refine (pe_callB cl (hl.gl hO) hg PySem.boot_len (pa_cons pv pa_nil)).run pins s σ H Q I ⟨.ref z, hσ, z, G, l, xs, rfl, he.kn, .inl hH, hr, ?_⟩
  exact k (.int l.length) u _ G H q (Grow.refl he.kn) he.st (by simp only [Rp])
end
/-! ### the keys of a dict that is known -/
def ItX (C : SC) (a : Addr) (o : Obj) (xs : List (NestedKey × Addr × Value)) : It :=
  ⟨fun i H => H a = some (.frz o (.ext (dictE C.P C.w a xs))) ∧ i < xs.length, fun i H x H' => H' = H ∧ ∃ k q v, xs[i]? = some (k, q, v) ∧ x = .ref q, fun i H => H a = some (.frz o (.ext (dictE C.P C.w a xs))) ∧ xs.length ≤ i⟩
theorem frzX {X : Cx} {pins : List (Addr × Obj)} {σ : L2.St} {H : Hp} {s : Shared} {a : Addr} {o : Obj} {xs : List (NestedKey × Addr × Value)} (I : L2.Inv X pins σ H s) (h : H a = some (.frz o (.ext (dictE X.prog X.w a xs)))) :
    (a == sysModules) = false ∧ s.heap.get? a = some o ∧ o.ExactDict ∧ ∃ (es : Array DictEntry) (ep : Nat), o.data = .dict es ep ∧ es.size = xs.length ∧ ∀ (i : Nat) (k : NestedKey) (q : Addr) (v : Value), xs[i]? = some (k, q, v) → ∃ en : DictEntry, es[i]? = some en ∧ en.key = .ref q := by
  obtain ⟨hd, ⟨z, y, o', es, ep, h1, h2, h3, h4, h5⟩, -⟩ := (show ObjOk X.prog X.w H s.heap a (.frz o (.ext (dictE X.prog X.w a xs))) from I.hok a _ h)
  rw [hd] at h1
  cases h1
  refine ⟨y, hd, h2, es, ep, h3, size_of_entries h4, fun i k q v e => ?_⟩
  have q1 := entry_at h4 i
  rw [e] at q1
  exact ⟨_, q1, rfl⟩
theorem turn_keysX {C : SC} {tg : Expr} {a : Addr} {o : Obj} {es : Array DictEntry} {ep : Nat} {xs : List (NestedKey × Addr × Value)} (it : Addr) (hod : o.data = .dict es ep) : Turn C.P C.w C.K tg (ItX C a o xs) [it] it (fun i h => h.IsKeyIter it a i xs.length ep) where
  mem := by simp
  obj := fun i h st b hb => by
    have e : b = it := by simpa using hb
    subst e
    obtain ⟨oi, e, c, dd⟩ := st
    exact ⟨oi, e, fun v z => by rw [dd] at z; cases z⟩
  keep := fun i h h' st k => st.at fun oi e => k it (by simp) oi e
  item := by
    intro X hP hw hK hc i pins s σ H E I hf st hg
    obtain ⟨hd, hi⟩ := hg
    rw [← hP, ← hw] at hd
    obtain ⟨f0, f1, f2, f3, f4, f5⟩ := hf it (by simp)
    obtain ⟨hs, hgd, hx, es', ep', hdt, hsz, ent⟩ := frzX I hd
    obtain ⟨rfl, rfl⟩ := dict_ep hod hdt
    obtain ⟨⟨k, q, v⟩, hkv⟩ : ∃ p, xs[i]? = some p := ⟨xs[i], List.getElem?_eq_getElem hi⟩
    obtain ⟨en, hen, hkey⟩ := ent i k q v hkv
    refine next_key_item st hgd hdt hsz hen fun h' st' sb => ?_
    have I1 : L2.Inv X pins σ H { s with heap := h' } := I.turned (t' := s.toks) (fun b ob hb e => (sb.2 b hb).trans e) f0 f1 f3 f4 f5
    obtain ⟨oi, e, c, dd⟩ := id st'
    exact ⟨en.key, rfl, go_of (s := { s with heap := h' }) e c dd (by decide) ⟨.ref q, H, I1, hkey, ⟨rfl, k, q, v, hkv, rfl⟩, st', fun b hb => (hf b hb).1⟩⟩
  done := by
    intro X hP hw hK hc i pins s σ H E I hf st hg
    obtain ⟨hd, hi⟩ := hg
    rw [← hP, ← hw] at hd
    obtain ⟨f0, f1, f2, f3, f4, f5⟩ := hf it (by simp)
    obtain ⟨hs, hgd, hx, es', ep', hdt, hsz, ent⟩ := frzX I hd
    obtain ⟨rfl, rfl⟩ := dict_ep hod hdt
    exact next_key_end (I.ok.hd hc) st hgd hdt hsz hi fun h' eb => ⟨rfl, I.turned (t' := s.toks) (fun b ob hb e => eb b ob hb e) f0 f1 f3 f4 f5⟩
  self := fun A i s Q E st h => by
    refine wpAny_pyIter_slot st.typeIs PySem.F.slot_dict_keyiterator_iter (wpAny_call_entry PySem.F.slot_dict_keyiterator_iter st.typeIs PySem.F.entry_dict_keyiterator_iter ?_ (PySem.F.args_dict_keyiterator_iter_1 _))
    show wpAny _ _ (ret (.ref it)) _ _ s
    exact wpAny_pure ⟨_, rfl, "dict_keyiterator", _, st.typeIs, PySem.F.slot_dict_keyiterator_next.lookup, h⟩
theorem y_keysX {C : SC} {G : Hp} {a : Addr} {o : Obj} {l : List (D × D)} {xs : List (NestedKey × Addr × Value)} (h1 : G a = some (.frz o (.ext (dictE C.P C.w a xs)))) (r : Paired (RpX C.K G) l xs) : Yields C.K G (ItX C a o xs) (l.map (·.1)) := by
  have hl := Paired.length r
  refine ⟨fun i G' H' k1 k2 hi => ⟨k2 _ _ (k1 _ _ h1), ?_⟩, fun i G' H' x H2 k1 k2 hi y => ?_, fun i G' H' k1 k2 hi => ⟨k2 _ _ (k1 _ _ h1), ?_⟩⟩
  · rw [List.length_map] at hi; omega
  · obtain ⟨rfl, k, q, v, e, rfl⟩ := y
    rw [List.length_map] at hi
    obtain ⟨b, hb, rb⟩ := paired_get r (List.getElem?_eq_getElem hi)
    rw [e] at hb
    cases hb
    refine ⟨l[i].1, G', ?_, Grow.refl k2, rb.2.2.1.mono k1⟩
    rw [List.getElem?_map, List.getElem?_eq_getElem hi]; rfl
  · rw [List.length_map] at hi; omega
section
variable {C : SC} {A : Amb} {E : NE} {u : A.U} {p : Pos} {tg : Expr} {x : Str} {l : List (D × D)} {kd : NameKind}
theorem i_keysX {Θ : List D → A.U → Prop} (hm : At E x (.knX (oT C.P C.w C.K l).froz)) (hn : Nm C.nm x kd) (hv : VisK kd) (h : Θ (l.map (·.1)) u)
    (hd : (x == ("__debug__" : Str)) = false := by decide +kernel) (hc : (x == ("__classdict__" : Str)) = false := by decide +kernel) : EvI C A tg (.Name x p) E u Θ := by
  intro G0 H0 G H σ he R k X pins s hX I
  obtain ⟨i, pv, hi⟩ := own_varX (p := p) hX he (.k hm) hn hv hd hc
  have hX' := hX
  obtain ⟨j, nm, rfl, hO, hK⟩ := id hX
  obtain ⟨α, e1, _⟩ := he.ent
  obtain ⟨i', hi', q, ob, hσ, hG, od, ob2, rfl, xs, rfl, hr⟩ := e1 x _ hm.mem
  obtain rfl : i = i' := nodup_ix hK.nd hi hi'
  refine thn (pv.run pins s σ H (fun v H1 => v = .ref q ∧ H1 = H) I ⟨.ref q, hσ, rfl, rfl⟩) fun v s1 ⟨x1, H1, I1, r1, q1, q2⟩ => ?_
  subst q1 q2
  obtain rfl : v = Value.ref q := r1
  obtain ⟨hs, hgd, hx, es, ep, hdt, hsz, ent⟩ := frzX I1 (he.kn _ _ hG)
  refine iter_keys hs hgd hx hdt (pi_one (tk := s1.toks) I1 _ (turn_keysX (C := stat X j nm) _ hdt) ⟨_, Heap.get?_push_size _ rfl, rfl, ?_⟩ (k _ u _ G H1 h (Grow.refl he.kn) he.st (y_keysX hG hr)))
  rw [hsz] <;> rfl
end
end L3
namespace L3
open PySem PySem.Spec PyProof.Rows L2
/-! ### new things of any kind, stored at once -/
/-- v is a datum, or a new object of one's own (new since H) -/
def NewAt (C : SC) (A : Amb) (u' : A.U) (H G' H' : Hp) : Sl → V → Prop
  | .dat d, v => Rp C.K G' d v
  | .own l, v => ∃ p xs, v = .ref p ∧ H p = none ∧ G' p = none ∧ ¬ A.foot u' p ∧ H' p = some (.lst xs) ∧ RpA C.K G' l xs
  | .ownX R, v => ∃ p ob, v = .ref p ∧ H p = none ∧ G' p = none ∧ ¬ A.foot u' p ∧ H' p = some ob ∧ R.rep G' p ob
  | _, _ => False
theorem NewAt.go {C : SC} {A : Amb} {u1 u2 : A.U} {H G1 H1 G2 H2 : Hp} {s : Sl} {v : V} (n : NewAt C A u1 H G1 H1 s v) (g : Grow (A.foot u1) (A.foot u2) G1 H1 G2 H2) : NewAt C A u2 H G2 H2 s v := by
  have keep : ∀ {p : Addr} {o : HO}, G1 p = none → ¬ A.foot u1 p → H1 p = some o → G2 p = none ∧ ¬ A.foot u2 p ∧ H2 p = some o := fun {p o} h1 h2 h3 => by
    refine ⟨?_, g.nf h2 h3, g.hh p _ h2 h3⟩
    cases w : G2 p with
    | none => rfl
    | some o2 =>
      have := g.fr p h1 (by rw [w]; simp)
      rw [h3] at this
      cases this
  cases s with
  | dat d => exact Rp.mono g.gg n
  | own l =>
    obtain ⟨p, xs, e, h1, h2, h3, h4, h5⟩ := n
    obtain ⟨k1, k3, k2⟩ := keep h2 h3 h4
    exact ⟨p, xs, e, h1, k1, k3, k2, h5.mono g.gg⟩
  | ownX R =>
    obtain ⟨p, ob, e, h1, h2, h3, h4, h5⟩ := n
    obtain ⟨k1, k3, k2⟩ := keep h2 h3 h4
    exact ⟨p, ob, e, h1, k1, k3, k2, R.mono g.gg h5⟩
  | un => exact n.elim
  | ownD l => exact n.elim
  | knX R => exact n.elim
theorem NewAt.addr {C : SC} {A : Amb} {u' : A.U} {H G' H' : Hp} {s : Sl} {v : V} (n : NewAt C A u' H G' H' s v) (o : s.isOwn) : ∃ p ob, v = .ref p ∧ H p = none ∧ H' p = some ob := by
  cases s with
  | own l => obtain ⟨p, xs, e, h1, h2, h3, h4, h5⟩ := n; exact ⟨p, _, e, h1, h4⟩
  | ownX R => obtain ⟨p, xs, e, h1, h2, h3, h4, h5⟩ := n; exact ⟨p, _, e, h1, h4⟩
  | _ => first | exact n.elim | exact (show False from o).elim
def EvX (C : SC) (A : Amb) (e : Expr) (E : NE) (u : A.U) (Φ : Sl → A.U → Prop) : Prop :=
  ∀ G0 H0 G H σ, Env C A G0 H0 u G H E σ → ∀ Q : VK, (∀ s u' v G' H', Φ s u' → Grow (A.foot u) (A.foot u') G H G' H' → A.st u' G' H' → NewAt C A u' H G' H' s v → Q v H') → rE C e σ H Q
section
variable {C : SC} {A : Amb} {E : NE} {u : A.U} {P : Post A} {pos p p2 q1 q2 : Pos} {e a b c : Expr} {Φ : Sl → A.U → Prop}
theorem x_dat (h : EvK C A e E u fun d u' => Φ (.dat d) u') : EvX C A e E u Φ := fun G0 H0 G H σ he Q q => h G0 H0 G H σ he Q fun d u' v G' H' p g st r => q _ u' v G' H' p g st r
theorem x_own (h : EvN C A e E u fun l u' => Φ (.own l) u') : EvX C A e E u Φ := fun G0 H0 G H σ he Q q => h G0 H0 G H σ he Q fun l u' p xs G' H' z g st h1 h2 h3 h4 h5 => q _ u' _ G' H' z g st ⟨p, xs, rfl, h1, h2, h3, h4, h5⟩
theorem empX {P : Program} {w : World} {H : Hp} (h : Heap) (hb : sysModules < h.objs.size) : ObjOk P w H (h.push { cls := .type "dict", data := .dict #[] }) h.objs.size (.ext (dictE P w h.objs.size [])) :=
  ext_ok ⟨Nat.zero_le _, beq_eq_false_iff_ne.mpr (Ne.symm (Nat.ne_of_lt hb)), _, #[], 0, Heap.get?_push_size _ rfl, ⟨rfl, rfl, rfl⟩, rfl, rfl, List.nodup_nil⟩
/-- {} -/
def tXNew (C : SC) : TE := fun _ H Q => ∀ p, H p = none → Q (.ref p) (upd H p (.ext (dictE C.P C.w p [])))
theorem pe_xnew {X : Cx} (hX : Has C X) : PE X (.Dict [] [] pos) (tXNew C) := by
  obtain ⟨j, nm, rfl, hO, hK⟩ := id hX
  exact ⟨fun pins s σ H Q I h => wpAny_Dict_empty ⟨.ref s.heap.objs.size, _, I.laid (a := s.heap.objs.size) (o := .ext (dictE X.prog X.w s.heap.objs.size [])) (t' := s.toks) (fun _ _ q => Heap.get?_push_of_some _ q) (Nat.le_refl _) (empX s.heap I.big), rfl, h _ (I.hok.fresh (Nat.le_refl _))⟩⟩
theorem x_new0 (q : Φ (.ownX (oT C.P C.w C.K [])) u) : EvX C A (.Dict [] [] pos) E u Φ := by
  intro G0 H0 G H σ he Q k X pins s hX I
  refine (pe_xnew hX).run pins s σ H Q I fun z hz => ?_
  have g2 : Grow noFoot noFoot G H G (upd H z (.ext (dictE C.P C.w z []))) := Grow.own he.kn hz
  exact k _ u _ G _ q g2.weak (A.grow he.st g2) ⟨z, _, rfl, hz, he.kn.back hz, fun f => A.there _ _ _ he.st z f hz, upd_same, [], rfl, .nil⟩
/-- {k: v} -/
def tXDisp1 (C : SC) (tk tv : TE) : TE := fun σ H Q => ∀ p, H p = none → tk σ (upd H p (.ext (dictE C.P C.w p []))) fun x H2 => tv σ H2 fun y H3 => H3 p = some (.ext (dictE C.P C.w p [])) ∧
  ∃ (G : Hp) (d : D) (k : NestedKey) (b : Addr), x = .ref b ∧ Kn G H3 ∧ kyD d = some k ∧ k.depth ≤ 8 ∧ Rp C.K G d (.ref b) ∧ ∀ w, RelV y w → Q (.ref p) (upd H3 p (.ext (dictE C.P C.w p [(k, b, w)])))
theorem pe_xdisp1 {X : Cx} {ke ve : Expr} {tk tv : TE} (hX : Has C X) (hk : PE X ke tk) (hv : PE X ve tv) : PE X (.Dict [some ke] [ve] pos) (tXDisp1 C tk tv) := by
  obtain ⟨j, nm, rfl, hO, hK⟩ := id hX
  have hu := Has.hu hK
  refine ⟨fun pins s σ H Q I q => ?_⟩
  have hn := I.hok.fresh (Nat.le_refl s.heap.objs.size)
  have I1 := I.laid (a := s.heap.objs.size) (o := .ext (dictE X.prog X.w s.heap.objs.size [])) (h' := s.heap.push { cls := .type "dict", data := .dict #[] }) (t' := s.toks) (fun _ _ q => Heap.get?_push_of_some _ q) (Nat.le_refl _) (empX s.heap I.big)
  have q := q _ hn
  rw [arm_eval_Dict, zip_pairTrees [some ke] [ve] X.env pos rfl rfl, dictDisplay_pairs (pairTrees [some ke] [ve] X.env pos) (by simp [pairTrees]) (by show 1 < 17; decide)]
  refine wpAny_bind (wpAny_standAt (wpAny_bind (wpAny_subDictH (knd := nestedKind X.prog X.w) (show X.A.units + 8 < cLine by omega) (by show 1 ≤ 15; decide) ?_)))
  refine pairTrees_cons_walk (thn (hk.run pins _ σ _ _ I1 q) fun u s1 ⟨x, H2, I2, rx, q2⟩ => thn (hv.run pins s1 σ H2 _ I2 q2) fun w2 s2 ⟨y, H3, I3, ry, hp, G, d, k, b, ex, kn, e1, e2, e3, q3⟩ => pairTrees_nil_walk ?_)
  subst ex
  obtain rfl : u = Value.ref b := rx
  obtain ⟨z, hd, dd⟩ := dx_of (l := []) I3 kn (.inl hp) .nil
  refine ⟨[(k, b, w2)], ⟨rfl, rfl, ⟨ky_is I3 kn e1 e3 rfl, e2⟩, trivial⟩, dd, fun h' tk dd' hs => wpAny_pure ⟨.ref s.heap.objs.size, _, ?_, rfl, q3 w2 ry⟩⟩
  obtain ⟨o, es, ep, hq, h2, h3, h4, _, h5⟩ := dd'
  exact d_write I3 (by rw [hp]; exact True.intro) hs ⟨o, hq⟩ (ext_ok ⟨by show 1 ≤ sizeLine; decide, hd, o, es, ep, hq, h2, h3, h4, h5⟩)
theorem x_new1 {ke ve : Expr} (h : EvK C A ke E u fun d u1 => EvK C A ve E u1 fun v u2 => KyOk d ∧ Φ (.ownX (oT C.P C.w C.K [(d, v)])) u2) : EvX C A (.Dict [some ke] [ve] pos) E u Φ := by
  intro G0 H0 G H σ he Q k X pins s hX I
  refine (pe_xdisp1 hX (pe_of hX ke) (pe_of hX ve)).run pins s σ H Q I fun z hz => ?_
  have g1 : Grow noFoot noFoot G H G (upd H z (.ext (dictE C.P C.w z []))) := Grow.own he.kn hz
  have st1 := A.grow he.st g1
  have hf : ¬ A.foot u z := fun f => A.there _ _ _ he.st z f hz
  have he1 := he.go g1.weak st1
  refine h G0 H0 G _ σ he1 _ fun d u1 v G2 H2 h2 g2 st2 r2 => ?_
  refine h2 G0 H0 G2 H2 σ (he1.go g2 st2) _ fun dv u2 vv G3 H3 ⟨⟨ds, kk, e0, e1, e2⟩, q3⟩ g3 st3 r3 => ?_
  subst e0
  have hz3 : H3 z = some (.ext (dictE C.P C.w z [])) := (g2.trans g3).hh z _ hf upd_same
  have gz : G z = none := he.kn.back hz
  have g23 := g2.trans g3
  have hf3 : ¬ A.foot u2 z := g23.nf hf upd_same
  have gz3 : G3 z = none := by
    cases w : G3 z with
    | none => rfl
    | some o =>
      have := g23.fr z gz (by rw [w]; simp)
      rw [upd_same] at this
      cases this
  have r2' := r2.mono g3.gg
  have r2'' := r2'
  simp only [Rp] at r2''
  obtain ⟨b, ys, rfl, _, _⟩ := r2''
  refine ⟨hz3, G3, _, kk, b, rfl, g3.gh, e1, e2, r2', fun w rw_ => ?_⟩
  refine k _ u2 _ G3 _ q3 ⟨g23.gg, fun a o w => ?_, fun a o f w => ?_, fun a w => ?_, fun a w n => ?_, fun a f => ?_⟩ (A.stay u2 G3 H3 _ _ st3 (Kn.refl _) (fun a o f w => ?_) fun a f w => w) ⟨z, _, rfl, hz, gz3, hf3, upd_same, _, rfl, .cons ⟨e1, e2, r2', vv, r3, rw_⟩ .nil⟩
  · have e : a ≠ z := fun e => by subst e; rw [gz3] at w; cases w
    rw [upd_ne e]; exact g3.gh a o w
  · have e : a ≠ z := ne_of_none w hz
    rw [upd_ne e]
    exact g23.hh a o f (by rw [upd_ne e]; exact w)
  · by_cases e : a = z
    · subst e; rw [upd_same]; simp
    · rw [upd_ne e]; exact g23.th a (by rw [upd_ne e]; exact w)
  · by_cases e : a = z
    · rw [e]; exact hz
    · have := g23.fr a w n
      rwa [upd_ne e] at this
  · by_cases e : a = z
    · rw [e]; exact .inr hz
    · rcases g23.ff a f with w | w
      · exact .inl w
      · rw [upd_ne e] at w; exact .inr w
  · have e : a ≠ z := fun e => hf3 (by rw [← e]; exact f)
    rw [upd_ne e]; exact w
theorem Env.putNew {G0 : Beg} {Hb H0 G H : Hp} {σ : L2.St} {x : Str} {F : Sl → NE} {i : Nat} {s : Sl} {v : V} (he : Env C A G0 H0 u G H E σ) (hp : Spl E x F) (hi : C.N[i]? = some x) (hl : σ.length = C.N.length) (nd : C.N.Nodup)
    (n : NewAt C A u Hb G H s v) (h0 : ∀ q, Hb q = none → H0 q = none) (hnew : s.isOwn → ∀ (y : Str) (t : Sl) (a : Addr), (y, t) ∈ E → y ≠ x → t.isOwn → (∀ j : Nat, C.N[j]? = some y → σ[j]? = some (some (.ref a))) → v ≠ .ref a) :
    Env C A G0 H0 u G H (F s) (σ.set i (some v)) := by
  cases s with
  | dat d => exact he.put hp hi hl nd n
  | own l =>
    obtain ⟨q, xs, rfl, h1, h2, h3, h4, h5⟩ := n
    exact he.putOwn hp hi hl nd h2 (h0 _ h1) h3 h4 h5 fun y t a m ne o k e => hnew trivial y t a m ne o k (by rw [e])
  | ownX R =>
    obtain ⟨q, xs, rfl, h1, h2, h3, h4, h5⟩ := n
    exact he.putOwnX hp hi hl nd h2 (h0 _ h1) h3 h4 h5 fun y t a m ne o k e => hnew trivial y t a m ne o k (by rw [e])
  | un => exact n.elim
  | ownD l => exact n.elim
  | knX R => exact n.elim
/-- behind the store of a first new thing: what stands in the slots is not the second one -/
theorem new_apart {G0 : Beg} {H0 G H : Hp} {σ : L2.St} {x : Str} {F : Sl → NE} {i : Nat} {s1 : Sl} {v1 v2 : V} (he : Env C A G0 H0 u G H E σ) (hx : Spl E x F) (hi : C.N[i]? = some x) (hl : σ.length = C.N.length)
    (hv : ∃ p, v2 = .ref p ∧ H p = none ∧ (s1.isOwn → ∃ q, v1 = .ref q ∧ q ≠ p)) :
    ∀ (z : Str) (t : Sl) (a : Addr), (z, t) ∈ F s1 → t.isOwn → (∀ j : Nat, C.N[j]? = some z → (σ.set i (some v1))[j]? = some (some (.ref a))) → v2 ≠ .ref a := by
  obtain ⟨p, rfl, h1, h2⟩ := hv
  intro z t a m o hz e
  have ea : p = a := by injection e
  by_cases zx : z = x
  · subst zx
    have hv := hz i hi
    rw [List.getElem?_set_self (by rw [hl]; exact (List.getElem?_eq_some_iff.mp hi).1)] at hv
    have w3 := Option.some.inj (Option.some.inj hv)
    have nd : ((F s1).map (·.1)).Nodup := by rw [(hx.spec s1).1]; exact he.nd
    have es := nodup_key nd m (hx.spec s1).2.1
    subst es
    obtain ⟨q, e1, e2⟩ := h2 o
    subst w3
    have : a = q := by injection e1
    exact e2 (by rw [← this, ea])
  · rcases (hx.spec s1).2.2.2 _ m with w | w
    · exact absurd (Prod.mk.inj w).1 zx
    · refine own_fresh he h1 z t a w o (fun n hn => ?_) ea.symm
      have := hz n hn
      rwa [List.getElem?_set_ne (fun e => zx (by subst e; exact Option.some.inj (hn.symm.trans hi)))] at this
theorem new_ne {Hb H1 G1 G2 H2 : Hp} {s1 s2 : Sl} {v1 v2 : V} {ua ub : A.U} (n1 : NewAt C A ua Hb G1 H1 s1 v1) (n2 : NewAt C A ub H1 G2 H2 s2 v2) (o : s2.isOwn) : ∃ p, v2 = .ref p ∧ H1 p = none ∧ (s1.isOwn → ∃ q, v1 = .ref q ∧ q ≠ p) := by
  obtain ⟨p, ob, e, h1, h2⟩ := n2.addr o
  refine ⟨p, e, h1, fun o1 => ?_⟩
  obtain ⟨q, ob1, e1, h3, h4⟩ := n1.addr o1
  exact ⟨q, e1, fun z => by rw [z, h1] at h4; cases h4⟩
theorem Env.base0 {G0 : Beg} {H0 G H : Hp} {σ : L2.St} (he : Env C A G0 H0 u G H E σ) : ∀ q, H q = none → H0 q = none := fun q e => by
  cases w : H0 q with
  | none => rfl
  | some o => exact absurd e (he.gr.th q (by rw [w]; simp))
/-- a, b = two things, new ones of one's own or data -/
theorem s_parX [hh : Cold C] {x y : Str} {px py pt pt2 : Pos} {kt k2} {F : Sl → NE} {F2 : Sl → Sl → NE} (hx : Spl E x F) (hy : ∀ s, Spl (F s) y (F2 s)) (nx : Nm C.nm x .local) (ny : Nm C.nm y .local)
    (h : EvX C A a E u fun s1 u1 => EvX C A b E u1 fun s2 u2 => P.nx (F2 s1 s2) u2)
    (hst : ∀ env, starEach [a, b] env = (false, eval a env) :: starEach [b] env := by intro _; rfl) (hst2 : ∀ env, starEach [b] env = [(false, eval b env)] := by intro _; rfl)
    (hp : px.line = py.line := by rfl) (hxy : x ≠ y := by decide +kernel) (ha : plainV a = true := by rfl) (hb : plainV b = true := by rfl) (f1 : [a, b].all (foldedForSure 8) = false := by rfl) (f2 : [a, b].all (constantsAlone 8) = false := by rfl)
    (hs : ∀ env, swapsWithSole [.Tuple [.Name x px, .Name y py] kt pt] (.Tuple [a, b] k2 pt2) pos.line env = pure false := by intro _; rfl) : StK C A (.Assign [.Tuple [.Name x px, .Name y py] kt pt] (.Tuple [a, b] k2 pt2) pos) E u P := by
  intro G0 H0 G H σ Ds he S X pins s hX I
  obtain ⟨k, nm, rfl, hO, hK⟩ := id hX
  obtain ⟨i, hi⟩ := he.ix hx
  have lx := nx.isLoc hO
  have ly := ny.isLoc hO
  obtain ⟨j, hj⟩ : ∃ j : Nat, X.N[j]? = some y := by
    obtain ⟨h1, h2, ⟨t, h3⟩, h4⟩ := (hy .un).spec .un
    rcases (hx.spec .un).2.2.2 _ h3 with e | e
    · exact absurd (Prod.mk.inj e).1.symm hxy
    · obtain ⟨α, e1, _⟩ := he.ent
      obtain ⟨j, h, _⟩ := e1 y t e
      exact ⟨j, h⟩
  have hij : i ≠ j := fun z => by subst z; exact hxy (Option.some.inj (hi.symm.trans hj))
  refine (ps_par (i := i) (j := j) (hK.calm hh.h) hK.nd hi hj hij lx ly (pa_cons (pe_of hX a) (pa_cons (pe_of hX b) pa_nil (hst2 X.env)) (hst X.env)) (sw_some lx ly I.ok.kind hp hxy ha hb f1 f2) (hs X.env)).run pins s σ H Ds I ?_
  refine h G0 H0 G H σ he _ fun s1 u1 v1 G1 H1 p1 g1 st1 n1 => ?_
  have he1 := he.go g1 st1
  refine p1 G0 H0 G1 H1 σ he1 _ fun s2 u2 v2 G2 H2 k2 g2 st2 n2 => ?_
  have he2 := he1.go g2 st2
  refine ⟨v1, v2, rfl, ?_⟩
  have e1 := he2.putNew hx hi I.len hK.nd (n1.go g2) he.base0 fun o y' t a m _ ot hk => by
    obtain ⟨p, ob, e, z1, _⟩ := n1.addr o
    intro ee
    exact own_fresh he z1 y' t a m ot hk (by rw [e] at ee; injection ee with ee; exact ee.symm)
  refine S.nx _ u2 G2 _ _ k2 (e1.putNew (hy s1) hj (by rw [List.length_set]; exact I.len) hK.nd n2 he1.base0 fun o y' t a m _ ot hk => ?_)
  exact new_apart he1 hx hi I.len (new_ne n1 n2 o) y' t a m ot hk
/-- place, row = x.pop(0), []: the first changes own lists -/
theorem s_parM [hh : Cold C] {x y : Str} {px py pt pt2 : Pos} {kt k2} (nx : Nm C.nm x .local) (ny : Nm C.nm y .local) (hx0 : ∃ s, At E x s) (hy0 : ∃ s, At E y s)
    (h : EvM C A a E u fun d E' u1 => EvN C A b E' u1 fun l u2 => ∃ (F : Sl → NE) (F2 : Sl → NE), Spl E' x F ∧ Spl (F (.dat d)) y F2 ∧ P.nx (F2 (.own l)) u2)
    (hst : ∀ env, starEach [a, b] env = (false, eval a env) :: starEach [b] env := by intro _; rfl) (hst2 : ∀ env, starEach [b] env = [(false, eval b env)] := by intro _; rfl)
    (hp : px.line = py.line := by rfl) (hxy : x ≠ y := by decide +kernel) (ha : plainV a = true := by rfl) (hb : plainV b = true := by rfl) (f1 : [a, b].all (foldedForSure 8) = false := by rfl) (f2 : [a, b].all (constantsAlone 8) = false := by rfl)
    (hs : ∀ env, swapsWithSole [.Tuple [.Name x px, .Name y py] kt pt] (.Tuple [a, b] k2 pt2) pos.line env = pure false := by intro _; rfl) : StK C A (.Assign [.Tuple [.Name x px, .Name y py] kt pt] (.Tuple [a, b] k2 pt2) pos) E u P := by
  intro G0 H0 G H σ Ds he S X pins s hX I
  obtain ⟨k, nm, rfl, hO, hK⟩ := id hX
  have lx := nx.isLoc hO
  have ly := ny.isLoc hO
  obtain ⟨α, ea, _⟩ := he.ent
  obtain ⟨sx, hx1⟩ := hx0
  obtain ⟨sy, hy1⟩ := hy0
  obtain ⟨i, hi, _⟩ := ea x _ hx1.mem
  obtain ⟨j, hj, _⟩ := ea y _ hy1.mem
  have hij : i ≠ j := fun z => by subst z; exact hxy (Option.some.inj (hi.symm.trans hj))
  refine (ps_par (i := i) (j := j) (hK.calm hh.h) hK.nd hi hj hij lx ly (pa_cons (pe_of hX a) (pa_cons (pe_of hX b) pa_nil (hst2 X.env)) (hst X.env)) (sw_some lx ly I.ok.kind hp hxy ha hb f1 f2) (hs X.env)).run pins s σ H Ds I ?_
  refine h G0 H0 G H σ he _ fun d E' u1 v1 G1 H1 p1 he1 r1 => ?_
  refine p1 G0 H0 G1 H1 σ he1 _ fun l u2 q xs G2 H2 ⟨F, F2, hx, hy, k2⟩ g2 st2 z1 z2 z3 z4 r2 => ?_
  have he2 := he1.go g2 st2
  refine ⟨v1, .ref q, rfl, ?_⟩
  have e1 := he2.put hx hi I.len hK.nd (r1.mono g2.gg)
  have n2 : NewAt (stat X k nm) A u2 H1 G2 H2 (.own l) (.ref q) := ⟨q, xs, rfl, z1, z2, z3, z4, r2⟩
  have e2 := e1.putNew hy hj (by rw [List.length_set]; exact I.len) hK.nd n2 he1.base0 fun o y' t a m _ ot hk => ?_
  · exact S.nx _ u2 G2 _ _ k2 e2
  · exact new_apart (s1 := .dat d) he1 hx hi I.len ⟨q, rfl, z1, fun o => (show False from o).elim⟩ y' t a m ot hk
theorem sw_some3 {env : PySem.Env} {x y z : Str} {px py pz pt pt2 : Pos} {kt k2} {a b c : Expr} (hx : env.kindOf x = some .local) (hy : env.kindOf y = some .local) (hz : env.kindOf z = some .local) (hk : env.scope.kind = .function) (hp : px.line = py.line) (hp2 : px.line = pz.line) (hxy : x ≠ y) (hxz : x ≠ z) (hyz : y ≠ z)
    (ha : plainV a = true) (hb : plainV b = true) (hc : plainV c = true) (f1 : [a, b, c].all (foldedForSure 8) = false) (f2 : [a, b, c].all (constantsAlone 8) = false) :
    swappedStores [.Tuple [.Name x px, .Name y py, .Name z pz] kt pt] (.Tuple [a, b, c] k2 pt2) env = pure (some [x, y, z]) := by
  have h1 : (env.blockKind != .function) = false := by unfold PySem.Env.blockKind; rw [hk]; rfl
  have h2 : ∀ f : Expr → Bool, (∀ e, plainV e = true → f e = false) → [a, b, c].any f = false := fun f h => by
    rw [List.any_cons, List.any_cons, List.any_cons, List.any_nil, h a ha, h b hb, h c hc]; rfl
  have h3 : ∀ g : Expr → Option Str, g (.Name x px) = some x → g (.Name y py) = some y → g (.Name z pz) = some z → [Expr.Name x px, Expr.Name y py, Expr.Name z pz].filterMap g = [x, y, z] := fun g e1 e2 e3 => by
    rw [List.filterMap_cons, e1, List.filterMap_cons, e2, List.filterMap_cons, e3]; rfl
  have h4 : [x, y, z].eraseDups.length = 3 := by
    rw [List.eraseDups_cons, List.filter_cons, if_pos (by simpa using Ne.symm hxy), List.filter_cons, if_pos (by simpa using Ne.symm hxz), List.filter_nil, List.eraseDups_cons, List.filter_cons, if_pos (by simpa using Ne.symm hyz), List.filter_nil]
    rfl
  unfold swappedStores
  simp only []
  rw [h1, h2 _ (by intro e he; cases e <;> first | rfl | cases he)]
  rw [h3 _ (by simp [hx]; rfl) (by simp [hy]; exact hp.symm) (by simp [hz]; exact hp2.symm), h4, f1, f2]
  rfl
/-- a, b, c = three things, new ones of one's own or data -/
theorem s_par3X [hh : Cold C] {x y z : Str} {px py pz pt pt2 : Pos} {kt k2} {F : Sl → NE} {F2 : Sl → Sl → NE} {F3 : Sl → Sl → Sl → NE} (hx : Spl E x F) (hy : ∀ s, Spl (F s) y (F2 s)) (hz : ∀ s t, Spl (F2 s t) z (F3 s t)) (nx : Nm C.nm x .local) (ny : Nm C.nm y .local) (nz : Nm C.nm z .local)
    (h : EvX C A a E u fun s1 u1 => EvX C A b E u1 fun s2 u2 => EvX C A c E u2 fun s3 u3 => P.nx (F3 s1 s2 s3) u3)
    (hst : ∀ env, starEach [a, b, c] env = (false, eval a env) :: starEach [b, c] env := by intro _; rfl) (hst2 : ∀ env, starEach [b, c] env = (false, eval b env) :: starEach [c] env := by intro _; rfl) (hst3 : ∀ env, starEach [c] env = [(false, eval c env)] := by intro _; rfl)
    (hp : px.line = py.line := by rfl) (hp2 : px.line = pz.line := by rfl) (hxy : x ≠ y := by decide +kernel) (hxz : x ≠ z := by decide +kernel) (hyz : y ≠ z := by decide +kernel)
    (ha : plainV a = true := by rfl) (hb : plainV b = true := by rfl) (hc : plainV c = true := by rfl) (f1 : [a, b, c].all (foldedForSure 8) = false := by rfl) (f2 : [a, b, c].all (constantsAlone 8) = false := by rfl)
    (hs : ∀ env, swapsWithSole [.Tuple [.Name x px, .Name y py, .Name z pz] kt pt] (.Tuple [a, b, c] k2 pt2) pos.line env = pure false := by intro _; rfl) : StK C A (.Assign [.Tuple [.Name x px, .Name y py, .Name z pz] kt pt] (.Tuple [a, b, c] k2 pt2) pos) E u P := by
  intro G0 H0 G H σ Ds he S X pins s hX I
  obtain ⟨k, nm, rfl, hO, hK⟩ := id hX
  have there : ∀ {w : Str}, (∃ t, (w, t) ∈ E) → ∃ i : Nat, X.N[i]? = some w := fun ⟨t, m⟩ => by
    obtain ⟨α, e1, _⟩ := he.ent
    obtain ⟨j, h, _⟩ := e1 _ t m
    exact ⟨j, h⟩
  have lx := nx.isLoc hO
  have ly := ny.isLoc hO
  have lz := nz.isLoc hO
  obtain ⟨i, hi⟩ := he.ix hx
  obtain ⟨j, hj⟩ : ∃ j : Nat, X.N[j]? = some y := by
    obtain ⟨h1, h2, ⟨t, h3⟩, h4⟩ := (hy .un).spec .un
    rcases (hx.spec .un).2.2.2 _ h3 with e | e
    · exact absurd (Prod.mk.inj e).1.symm hxy
    · exact there ⟨t, e⟩
  obtain ⟨l, hl⟩ : ∃ l : Nat, X.N[l]? = some z := by
    obtain ⟨h1, h2, ⟨t, h3⟩, h4⟩ := (hz .un .un).spec .un
    rcases ((hy .un).spec .un).2.2.2 _ h3 with e | e
    · exact absurd (Prod.mk.inj e).1.symm hyz
    · rcases (hx.spec .un).2.2.2 _ e with e | e
      · exact absurd (Prod.mk.inj e).1.symm hxz
      · exact there ⟨t, e⟩
  have hij : i ≠ j := fun q => by subst q; exact hxy (Option.some.inj (hi.symm.trans hj))
  have hil : i ≠ l := fun q => by subst q; exact hxz (Option.some.inj (hi.symm.trans hl))
  have hjl : j ≠ l := fun q => by subst q; exact hyz (Option.some.inj (hj.symm.trans hl))
  refine (ps_par3 (i := i) (j := j) (l := l) (hK.calm hh.h) hK.nd hi hj hl hij hil hjl lx ly lz (pa_cons (pe_of hX a) (pa_cons (pe_of hX b) (pa_cons (pe_of hX c) pa_nil (hst3 X.env)) (hst2 X.env)) (hst X.env)) (sw_some3 lx ly lz I.ok.kind hp hp2 hxy hxz hyz ha hb hc f1 f2) (hs X.env)).run pins s σ H Ds I ?_
  refine h G0 H0 G H σ he _ fun s1 u1 v1 G1 H1 p1 g1 st1 n1 => ?_
  have he1 := he.go g1 st1
  refine p1 G0 H0 G1 H1 σ he1 _ fun s2 u2 v2 G2 H2 p2 g2 st2 n2 => ?_
  have he2 := he1.go g2 st2
  refine p2 G0 H0 G2 H2 σ he2 _ fun s3 u3 v3 G3 H3 k3 g3 st3 n3 => ?_
  have he3 := he2.go g3 st3
  refine ⟨v1, v2, v3, rfl, ?_⟩
  have e1 := he3.putNew hx hi I.len hK.nd ((n1.go g2).go g3) he.base0 fun o y' t a m _ ot hk => by
    obtain ⟨p, ob, e, z1, _⟩ := n1.addr o
    intro ee
    exact own_fresh he z1 y' t a m ot hk (by rw [e] at ee; injection ee with ee; exact ee.symm)
  have e2 := e1.putNew (hy s1) hj (by rw [List.length_set]; exact I.len) hK.nd (n2.go g3) he1.base0 fun o y' t a m _ ot hk => ?_
  · refine S.nx _ u3 G3 _ _ k3 (e2.putNew (hz s1 s2) hl (by rw [List.length_set, List.length_set]; exact I.len) hK.nd n3 he2.base0 fun o w t a m nw ot hk ee => ?_)
    -- the third: new since H2
    obtain ⟨p, ob, e, z1, _⟩ := n3.addr o
    subst e
    have ea : p = a := by injection ee
    subst ea
    have old : ∀ {q : Addr} {sl : Sl} {v : V} {Hb : Hp}, NewAt (stat X k nm) A u2 Hb G2 H2 sl v → sl.isOwn → v ≠ .ref p := fun {q sl v Hb} n o1 e => by
      obtain ⟨q2, ob2, e2, _, h4⟩ := n.addr o1
      rw [e2] at e
      injection e with e
      rw [e, z1] at h4
      cases h4
    by_cases wy : w = y
    · subst wy
      have hv := hk j hj
      rw [List.getElem?_set_self (by rw [List.length_set, I.len]; exact (List.getElem?_eq_some_iff.mp hj).1)] at hv
      have w3 := Option.some.inj (Option.some.inj hv)
      have nd : ((F2 s1 s2).map (·.1)).Nodup := e2.nd
      have es := nodup_key nd m ((hy s1).spec s2).2.1
      subst es
      exact old (q := p) n2 ot w3
    · rcases ((hy s1).spec s2).2.2.2 _ m with e | e
      · exact absurd (Prod.mk.inj e).1 wy
      · by_cases wx : w = x
        · subst wx
          have hv := hk i hi
          rw [List.getElem?_set_ne (Ne.symm hij), List.getElem?_set_self (by rw [I.len]; exact (List.getElem?_eq_some_iff.mp hi).1)] at hv
          have w3 := Option.some.inj (Option.some.inj hv)
          have nd : ((F s1).map (·.1)).Nodup := e1.nd
          have es := nodup_key nd e (hx.spec s1).2.1
          subst es
          exact old (q := p) (n1.go g2) ot w3
        · rcases (hx.spec s1).2.2.2 _ e with e' | e'
          · exact absurd (Prod.mk.inj e').1 wx
          · refine own_fresh he2 z1 w t p e' ot (fun n hn => ?_) rfl
            have := hk n hn
            rwa [List.getElem?_set_ne (fun e => wy (by subst e; exact Option.some.inj (hn.symm.trans hj))), List.getElem?_set_ne (fun e => wx (by subst e; exact Option.some.inj (hn.symm.trans hi)))] at this
  · exact new_apart he1 hx hi I.len (new_ne n1 n2 o) y' t a m ot hk
end
end L3
namespace PySem
open Sem (wp)
/-! ### max(xs, default = d) -/
section
variable {prog : Program} {w : World} {A : Around} {R : Result → Shared → Prop} {I : Addr} {fp wr : List Addr} {n : Nat} {P : Nat → Value → Prop} {St : Nat → Heap → Prop} {kw : List (Str × Value)}
theorem mx_loop (W : Walks prog w A.in1 I fp wr n P St) (bt : Nat → Nat → Bool) (hcmp : CmpOf prog w A.in1 .Gt P bt) (S : Addr) (hSf : S ∉ fp) :
    ∀ (k j : Nat) (s : Shared) (vb : Value) (c : Nat), n - (j + 1) = k → j + 1 ≤ n → St (j + 1) s.heap → P (argBest bt j) vb →
    s.heap.get? S = some { cls := .type "list", dict := none, data := .seq #[vb, vb] c, slots := #[] } →
    (∀ v h' tk, P (argBest bt (n - 1)) v → (∀ b o, b ∉ wr → b ≠ S → s.heap.get? b = some o → h'.get? b = some o) → R (.ok (.ret v)) { s with heap := h', toks := tk }) →
    codeAny (model prog w) A (.builtin "max.loop" ⟨[.ref I, .none, .ref S], kw⟩) R s := by
  have nw : S ∉ wr := fun h => hSf (W.sub _ h)
  have nm : (toString "max" ++ toString ".loop" : String) = "max.loop" := by decide
  intro k
  induction k with
  | zero =>
    intro j s vb c hk hj hst hb hS hR
    have ej : j + 1 = n := by omega
    refine codeAny_builtin F.entry_max_loop ?_
    rw [Around.under_plainId F.plain_max_loop _]
    refine (show wpAny (model prog w) A.in1 (seqItems? (.ref S) >>= _) _ _ s from wpAny_bind (wpAny_seqItems hS rfl ?_))
    refine (show wpAny (model prog w) A.in1 (tryCatch (pyNext (.ref I)) _ >>= _) _ _ s from wpAny_bind (wpAny_tryCatch (W.done s _ _ (ej ▸ hst) fun h' tk hk' => ?_)))
    refine (show wpAny (model prog w) A.in1 (updateSeq S (fun _ => #[]) >>= _) _ _ _ from wpAny_bind (wpAny_updateSeq (hk' S _ nw hS) rfl (wpAny_bind (wpAny_letGo (wpAny_pure ?_)))))
    exact hR vb _ tk (by rw [← ej]; exact hb) fun b o h1 h2 e => (Heap.get?_update_other _ _ (Ne.symm h2)).trans (hk' b o h1 e)
  | succ k ih =>
    intro j s vb c hk hj hst hb hS hR
    have lt : j + 1 < n := by omega
    refine codeAny_builtin F.entry_max_loop ?_
    rw [Around.under_plainId F.plain_max_loop _]
    refine (show wpAny (model prog w) A.in1 (seqItems? (.ref S) >>= _) _ _ s from wpAny_bind (wpAny_seqItems hS rfl ?_))
    refine (show wpAny (model prog w) A.in1 (tryCatch (pyNext (.ref I)) _ >>= _) _ _ s from wpAny_bind (wpAny_tryCatch (W.item (j + 1) s _ _ lt hst fun v h' tk hP hst' hk' => ?_)))
    have hS' := hk' S _ nw hS
    refine (show wpAny (model prog w) A.in1 (tryCatch (holding [v, v] (richCompare .Gt v vb >>= _)) _ >>= _) _ _ _ from wpAny_bind (wpAny_tryCatch (wpAny_holding (wpAny_bind (hcmp (j + 1) (argBest bt j) v vb _ _ _ hP hb ?_)))))
    refine wpAny_bind (wpAny_holding (wpAny_truthy_bool (wpAny_bind (wpAny_letGo (wpAny_pure ?_)))))
    cases z : bt (j + 1) (argBest bt j) with
    | true =>
      rw [if_pos rfl]
      refine wpAny_bind (wpAny_updateSeq hS' rfl (wpAny_bind (wpAny_letGo ?_)))
      rw [nm]
      refine wpAny_pure ⟨plainId_quiet F.plain_max_loop _, ih (j + 1) _ v _ (by omega) lt (W.frame _ _ _ hst' fun b hbf o e => (Heap.get?_update_other _ _ (fun h : S = b => hSf (by rw [h]; exact hbf))).trans e) (by rw [argBest, if_pos z]; exact hP) (Heap.get?_update_self _ hS' rfl) fun v' h2 tk2 hP' hk2 => ?_⟩
      exact hR v' h2 tk2 hP' fun b o h3 h4 e => hk2 b o h3 h4 ((Heap.get?_update_other _ _ (Ne.symm h4)).trans (hk' b o h3 e))
    | false =>
      rw [if_neg (by decide)]
      refine wpAny_bind (wpAny_letGo ?_)
      rw [nm]
      refine wpAny_pure ⟨plainId_quiet F.plain_max_loop _, ih (j + 1) _ vb c (by omega) lt hst' (by rw [argBest, if_neg (by rw [z]; decide)]; exact hb) hS' fun v' h2 tk2 hP' hk2 => ?_⟩
      exact hR v' h2 tk2 hP' fun b o h3 h4 e => hk2 b o h3 h4 (hk' b o h3 e)
theorem mx_first (W : Walks prog w A.in1 I fp wr n P St) (bt : Nat → Nat → Bool) (hcmp : CmpOf prog w A.in1 .Gt P bt) (S : Addr) (hSf : S ∉ fp) {s : Shared} {c : Nat} {d : Value} {x : Str} (hst : St 0 s.heap)
    (hS : s.heap.get? S = some { cls := .type "list", dict := none, data := .seq #[] c, slots := #[] })
    (h0 : n = 0 → ∀ h' tk, (∀ b o, b ∉ wr → b ≠ S → s.heap.get? b = some o → h'.get? b = some o) → R (.ok (.ret d)) { s with heap := h', toks := tk })
    (hR : 0 < n → ∀ v h' tk, P (argBest bt (n - 1)) v → (∀ b o, b ∉ wr → b ≠ S → s.heap.get? b = some o → h'.get? b = some o) → R (.ok (.ret v)) { s with heap := h', toks := tk }) :
    codeAny (model prog w) A (.builtin "max.loop" ⟨[.ref I, .none, .ref S], [(x, d)]⟩) R s := by
  have nw : S ∉ wr := fun h => hSf (W.sub _ h)
  have nm : (toString "max" ++ toString ".loop" : String) = "max.loop" := by decide
  refine codeAny_builtin F.entry_max_loop ?_
  rw [Around.under_plainId F.plain_max_loop _]
  refine (show wpAny (model prog w) A.in1 (seqItems? (.ref S) >>= _) _ _ s from wpAny_bind (wpAny_seqItems hS rfl ?_))
  rcases Nat.eq_zero_or_pos n with e | hn
  · subst e
    refine (show wpAny (model prog w) A.in1 (tryCatch (pyNext (.ref I)) _ >>= _) _ _ s from wpAny_bind (wpAny_tryCatch (W.done s _ _ hst fun h' tk hk' => ?_)))
    refine wpAny_bind (wpAny_rule (wpAny_pure ?_))
    exact h0 rfl h' tk fun b o h1 _ e => hk' b o h1 e
  · refine (show wpAny (model prog w) A.in1 (tryCatch (pyNext (.ref I)) _ >>= _) _ _ s from wpAny_bind (wpAny_tryCatch (W.item 0 s _ _ hn hst fun v h' tk hP hst' hk' => ?_)))
    have hS' := hk' S _ nw hS
    show wpAny (model prog w) A.in1 (updateSeq S (fun _ => #[v, v]) >>= _) _ _ _
    refine wpAny_bind (wpAny_updateSeq hS' rfl ?_)
    rw [nm]
    refine wpAny_pure ⟨plainId_quiet F.plain_max_loop _, mx_loop W bt hcmp S hSf _ 0 _ v _ rfl hn (W.frame _ _ _ hst' fun b hbf o e => (Heap.get?_update_other _ _ (fun h : S = b => hSf (by rw [h]; exact hbf))).trans e) hP (Heap.get?_update_self _ hS' rfl) fun v' h2 tk2 hP' hk2 => ?_⟩
    exact hR hn v' h2 tk2 hP' fun b o h3 h4 e => hk2 b o h3 h4 ((Heap.get?_update_other _ _ (Ne.symm h4)).trans (hk' b o h3 e))
end
section
variable {prog : Program} {w : World} {A : Around} {E : Value → Shared → Prop} {s : Shared}
theorem args_maxD (a d : Value) : argsOk "max" ⟨[a], [("default", d)]⟩ := by unfold argsOk; kernel_rfl
theorem call_kwT {id : String} {b : Builtin} {args : List Value} {kw : List (Str × Value)} {Q : Value → Shared → Prop} (hk : builtinKind id = none) (hp : plainId id = true) (hb : entryFor table id = some b) (ha : argsOk id ⟨args, kw⟩)
    (hc : wpAny (model prog w) A.in1 (b ⟨args, kw⟩) (fun fin s' => match fin with
      | .done f => (match (Except.ok f : Result) with | .ok (.ret v) => Q v s' | .ok _ => False | .error e => E e s')
      | .again c' => c'.quiet = true ∧ codeAny (model prog w) A c' (fun r s' => match r with | .ok (.ret v) => Q v s' | .ok _ => False | .error e => E e s') s') E s) :
    wpAny (model prog w) A (call (.builtin id) args kw) Q E s := by
  refine wpAny_call (codeAny_call_builtin hp hb ?_)
  simp only [checkBuiltinCall, hk]
  cases hsig : Manifest.signature? id with
  | none => exact wpAny_pure hc
  | some sig =>
    simp only [argsOk, hsig] at ha
    have h2 : Bind.checkArgs id sig ⟨args, kw⟩ = pure () := ha
    show wpAny _ A.in1 (Bind.checkArgs id sig ⟨args, kw⟩) _ _ s
    rw [h2]
    exact wpAny_pure hc
theorem maxD_list {l : Addr} {xs : Array (Int × Tok)} {d : Value} {Q : Value → Shared → Prop} (hh : A.handled = none) (hl : s.heap.IsList l (intItems xs))
    (h0 : xs.size = 0 → ∀ h' tk, (∀ b o, s.heap.get? b = some o → h'.get? b = some o) → Q d { s with heap := h', toks := tk })
    (h : 0 < xs.size → ∀ v h' tk, (intItems xs)[argBest (fun i j => decide (numAt xs i > numAt xs j)) (xs.size - 1)]? = some v → (∀ b o, s.heap.get? b = some o → h'.get? b = some o) → Q v { s with heap := h', toks := tk }) :
    wpAny (model prog w) A (call (.builtin "max") [.ref l] [("default", d)]) Q E s := by
  have nm : (toString "max" ++ toString ".loop" : String) = "max.loop" := by decide
  refine call_kwT F.kind_max F.plain_max F.entry_max (args_maxD _ _) ?_
  refine (show wpAny (model prog w) A.in1 (Builtin.Builtins.bindParams "max" ["key", "default"] 0 ⟨[], [("default", d)]⟩ >>= _) _ _ s from ?_)
  refine wpAny_bind (wpAny_of_eq (show Builtin.Builtins.bindParams "max" ["key", "default"] 0 ⟨[], [("default", d)]⟩ = pure [none, some d] from rfl) ?_)
  refine wpAny_bind (wpAny_pure ?_)
  refine wpAny_bind (iter_intList hl fun s2 e st hfp hlI => ?_)
  subst e
  refine wpAny_bind (wpAny_newObj_type ?_)
  have hW := Walks.list (prog := prog) (w := w) (A := A.in1) hh s.heap.objs.size l hlI (intItems xs)
  have hSf : (s.heap.push { cls := .type "list_iterator", data := .fields #[.ref l, .int 0 0] }).objs.size ∉ [s.heap.objs.size, l] := fun hm => Nat.lt_irrefl _ (hfp _ hm)
  rw [nm]
  refine wpAny_pure ⟨plainId_quiet F.plain_max_loop _, mx_first hW _ (CmpOf.ints_gt (numAt xs) (fun _ _ => intItems_at)) _ hSf (hW.frame _ _ _ st fun b _ o e => Heap.get?_push_of_some _ e) (Heap.get?_push_size _ rfl) (fun e h' tk hk => ?_) (fun e v h' tk hP hk => ?_)⟩
  · exact h0 (by simpa [intItems] using e) h' tk fun b o e => hk b o (fun hm => by have hm := List.mem_singleton.mp hm; exact absurd (hm ▸ Heap.lt_size e) (Nat.lt_irrefl _)) (Nat.ne_of_lt (Nat.lt_of_lt_of_le (Heap.lt_size e) (by rw [Heap.size_push]; exact Nat.le_succ _))) (Heap.get?_push_of_some _ (Heap.get?_push_of_some _ e))
  · exact h (by simpa [intItems] using e) v h' tk (by simpa [intItems] using hP) fun b o e => hk b o (fun hm => by have hm := List.mem_singleton.mp hm; exact absurd (hm ▸ Heap.lt_size e) (Nat.lt_irrefl _)) (Nat.ne_of_lt (Nat.lt_of_lt_of_le (Heap.lt_size e) (by rw [Heap.size_push]; exact Nat.le_succ _))) (Heap.get?_push_of_some _ (Heap.get?_push_of_some _ e))
end
end PySem
namespace L3
open PySem PySem.Spec PyProof.Rows L2
theorem bb_max : bootBuiltins "max" = some (.builtin "max") := by decide +kernel
def maxW : List D → (D → Prop) → Prop
  | [.int i, .int j], Ψ => Ψ (.int (max i j))
  | _, _ => False
section
variable {C : SC}
theorem max_ok [hh : Cold C] : CallS C (.builtin "max") maxW := by
  rintro X ⟨k, nm, rfl, hO, hK⟩ pins s σ H xs us Q I rx ⟨G, ds, Ψ, kn, r, f, q⟩
  obtain ⟨i, j, rfl, f⟩ : ∃ i j, ds = [.int i, .int j] ∧ Ψ (.int (max i j)) := by
    unfold maxW at f
    split at f
    · exact ⟨_, _, rfl, f⟩
    · exact f.elim
  rw [RpA.cons_iff] at r
  obtain ⟨x, r2, rfl, h1, r⟩ := r
  obtain ⟨y, rfl, h2⟩ := rpa1 r
  simp only [Rp] at h1 h2
  subst h1 h2
  refine call_max2 (hK.calm hh.h) pins s σ H _ us Q I rx ⟨i, j, rfl, ?_⟩
  have e : (if j > i then j else i) = max i j := by
    by_cases z : j > i
    · rw [if_pos z]; omega
    · rw [if_neg z]; omega
  rw [e]
  exact q (.int (max i j)) _ G H f (Grow.refl kn) (by simp only [Rp])
end
def rMaxDf (K : PySem.W.Frag) : List V → List V → Hp → VK → Prop := fun xs zs H Q => ∃ (p : Addr) (ns : List Int) (z : V), xs = [.ref p] ∧ zs = [z] ∧ SqL K H p (ns.map V.int) ∧ (ns = [] → Q z H) ∧ ∀ m, m ∈ ns → (∀ y, y ∈ ns → y ≤ m) → Q (.int m) H
theorem call_maxDf {X : Cx} (hc : X.calm = true) : CallRK X (.builtin "max") ["default"] (rMaxDf X.K) := by
  intro pins s σ H xs zs us ws Q I r1 r2 h
  obtain ⟨p, ns, z, rfl, rfl, hs, q0, q1⟩ := h
  obtain ⟨its, rv, hl, _⟩ := I.list hs
  obtain ⟨u, rfl, rx⟩ := vals1 r1
  obtain rfl : u = Value.ref p := rx
  obtain ⟨d, rfl, rd⟩ := vals1 r2
  have hi := rv.ints
  obtain ⟨xs, e⟩ := hi.allInts.items
  have hn : ns = xs.toList.map (·.1) := by rw [← hi.numsOf, ← nums_intItems, ← e]
  have hl := hl.isList
  rw [e] at hl
  refine maxD_list (I.ok.hd hc) hl (fun hz h' tk hk => ?_) fun hz v h' tk hv hk => ?_
  · refine ⟨z, H, I.kept hk, rd, q0 ?_⟩
    rw [hn]
    have : xs.toList.length = 0 := by rw [Array.length_toList]; exact hz
    rw [List.length_eq_zero_iff.mp this]; rfl
  · obtain ⟨t, rfl⟩ := intItems_at hv
    obtain ⟨h1, h2⟩ := argBest_gt (numAt xs) (xs.size - 1)
    refine ⟨.int _, H, I.kept hk, ⟨_, rfl⟩, q1 _ ?_ fun a ha => ?_⟩
    · rw [hn, numAt_eq]; exact PySem.getD_mem (by rw [List.length_map, Array.length_toList]; omega)
    · rw [hn] at ha
      obtain ⟨j, hj, rfl⟩ := mem_getD ha
      rw [List.length_map, Array.length_toList] at hj
      rw [← numAt_eq]; exact h2 j (by omega)
section
variable {C : SC} {A : Amb} {E : NE} {u : A.U} {pos q1 kpos : Pos} {e de : Expr} {Φ : D → A.U → Prop}
/-- max(e, default = de) -/
theorem k_maxD [hh : Cold C] (hn : Nm C.nm "max" .globalImplicit) (hm : C.mg "max" = none) (h : EvK C A e E u fun d u1 => ∃ ns : List Int, d = .lst (ns.map .int) ∧ EvK C A de E u1 fun dd u2 => (ns = [] → Φ dd u2) ∧ ∀ m, m ∈ ns → (∀ y, y ∈ ns → y ≤ m) → Φ (.int m) u2)
    (he : ∀ env, backTo pos (starEach [e] env) = (false, eval e env) :: backTo pos (starEach [] env) := by intro _; rfl) (hpl : ∀ env, (backTo pos (starEach [e] env)).any (·.1) = false := by intro _; rfl) (hst : ∀ env, starEach [e] env = [(false, eval e env)] := by intro _; rfl) :
    EvK C A (.Call (.Name "max" q1) [e] [⟨some "default", de, kpos⟩] pos) E u Φ := by
  intro G0 H0 G H σ hE Q q X pins s hX I
  obtain ⟨k, nm, rfl, hO, hK⟩ := id hX
  refine (pe_callBK (ks := ["default"]) (call_maxDf (hK.calm hh.h)) (hn.gl hO) hm bb_max (pa_cons (pe_of hX e) pa_nil (hst X.env)) (pk_cons (pe_of hX de) pk_nil) (he := he X.env) (hpl := hpl X.env)).run pins s σ H Q I ?_
  refine h G0 H0 G H σ hE _ fun d u1 v G1 H1 ⟨ns, e1, k1⟩ g1 st1 r1 => ?_
  subst e1
  simp only [Rp] at r1
  obtain ⟨p, ys, rfl, z1, z2⟩ := r1
  have z3 := z2.ints
  subst z3
  refine k1 G0 H0 G1 H1 σ (hE.go g1 st1) _ fun dd u2 vd G2 H2 ⟨k2, k3⟩ g2 st2 r2 => ?_
  exact ⟨p, ns, vd, rfl, rfl, SqL.of (g2.gh _ _ (g2.gg _ _ z1)), fun ez => q dd u2 vd G2 H2 (k2 ez) (g1.trans g2) st2 r2, fun m hm hy => q (.int m) u2 _ G2 H2 (k3 m hm hy) (g1.trans g2) st2 (by simp only [Rp])⟩
end
end L3
namespace L3
open PySem PySem.Spec PyProof.Rows L2
section
variable {C : SC} {A : Amb} {E : NE} {u : A.U} {pos p : Pos} {c : Expr} {P : Post A} {t f : List Stmt} {Φ : D → A.U → Prop}
/-- a written tuple of the module -/
def TupK (K : PySem.W.Frag) (a : Addr) (l : List D) : Prop := ∀ G, Rp K G (.tup l) (.ref a)
theorem k_globT {x : Str} {a : Addr} {l : List D} (hn : Nm C.nm x .globalImplicit) (hm : C.mg x = some (.ref a)) (hK : TupK C.K a l) (q : Φ (.tup l) u) (hd : (x == ("__debug__" : Str)) = false := by decide +kernel) : EvK C A (.Name x p) E u Φ :=
  k_glob hn hm (v := .ref a) rfl (fun G => hK G) q hd
end
end L3
namespace PySem
open Sem (wp)
open PySem.W
section
variable {prog : Program} {w : World} {A : Around} {E : Value → Shared → Prop} {s : Shared}
theorem min_list_at {l : Addr} {vs : Array Value} {x : PyData} {xs : List PyData} {as : List Addr} {Q : Value → Shared → Prop} (hh : A.handled = none) (hl : s.heap.IsList l vs) (hr : ReadsAll s.heap vs.toList (x :: xs) as) (ha : AlikeAll (x :: xs)) (hu : A.units + 1 + PyData.depthAll (x :: xs) < cLine)
    (h : ∀ (i : Nat) v h' tk, vs[i]? = some v → (x :: xs).getD i .none = minD x xs → (∀ b o, s.heap.get? b = some o → h'.get? b = some o) → Q v { s with heap := h', toks := tk }) :
    wpAny (model prog w) A (call (.builtin "min") [.ref l]) Q E s := by
  have hn : vs.size = xs.length + 1 := readsAll_len hr
  refine call_min_walkH (iter_listW (A := A.in1) hh hl fun s₂ e W st hfp hw hk => ?_)
  refine ⟨_, _, _, _, _, _, _, s.heap, _, rfl, W, st, hfp, by omega, hw, hk, cmpIn_lt (A := A.in1) hr ha (by show A.units + 1 + _ < _; exact hu), fun v s' hP m => ?_⟩
  obtain ⟨h', tk, rfl, hk'⟩ := moved_old e rfl m
  have e1 : vs.size - 1 = xs.length := by omega
  have e2 := (argBest_fold dataLt PyData.none x xs xs.length (Nat.le_refl _)).2
  rw [List.take_length] at e2
  rw [e1] at hP
  exact h _ v h' tk hP (by unfold minD; rw [← e2]) hk'
end
theorem minD_is {T : PyData} : ∀ {xs : List PyData} {x : PyData}, (T = x ∨ (T ∈ xs ∧ dataLt T x = true)) → (∀ q ∈ xs, q = T ∨ (dataLt T q = true ∧ dataLt q T = false)) → dataLt T T = false → minD x xs = T
  | [], x, h, _, _ => by
    rcases h with h | h
    · exact h.symm
    · exact absurd h.1 (List.not_mem_nil)
  | q :: xs, x, h, hq, hT => by
    have ih := fun x h => minD_is (T := T) (xs := xs) (x := x) h (fun q m => hq q (List.mem_cons_of_mem _ m)) hT
    show minD (if dataLt q x then q else x) xs = T
    rcases h with h | ⟨hm, hx⟩
    · subst h
      rcases hq q List.mem_cons_self with e | ⟨_, e⟩
      · rw [e, hT]; exact ih _ (.inl rfl)
      · rw [e]; exact ih _ (.inl rfl)
    · rcases List.mem_cons.mp hm with e | hm
      · subst e
        rw [if_pos hx]
        exact ih _ (.inl rfl)
      · rcases hq q List.mem_cons_self with e | ⟨e1, e2⟩
        · subst e
          rw [if_pos hx]
          exact ih _ (.inl rfl)
        · by_cases z : dataLt q x = true
          · rw [if_pos z]; exact ih _ (.inr ⟨hm, e1⟩)
          · rw [if_neg z]; exact ih _ (.inr ⟨hm, hx⟩)
end PySem
namespace L3
open PySem PySem.Spec PyProof.Rows L2
theorem dataLt_is (i j : Int) (s t : Str) : PySem.W.dataLt (.tuple [.int i, .str s]) (.tuple [.int j, .str t]) = (decide (i < j) || (decide (i = j) && decide (s.cps.toList < t.cps.toList))) := by
  rw [PySem.W.dataLt_tuple]
  simp only [PySem.W.keyToksAll, PySem.W.keyToks, List.cons_append, List.nil_append]
  rw [lex_self (O := itemOrd)]
  by_cases e : i = j
  · subst e
    rw [lex_self (O := itemOrd), lex_self (O := itemOrd)]
    by_cases e2 : s.cps.toList = t.cps.toList
    · rw [e2, lex_self (O := itemOrd), lex_self (O := itemOrd)]
      simp only [Int.lt_irrefl, decide_false, decide_true, Bool.true_and, Bool.false_or, List.lt_irrefl]
      rfl
    · rw [lex_diff (O := itemOrd) (fun z => e2 (Sum.inr.inj z))]
      simp only [Int.lt_irrefl, decide_false, decide_true, Bool.true_and, Bool.false_or]
      rfl
  · rw [lex_diff (O := itemOrd) (fun z => e (Sum.inl.inj z)), decide_eq_false e]
    simp only [Bool.false_and, Bool.or_false]
    rfl
/-- the strict order of pairs -/
def ltP (p q : Int × Str) : Prop := p.1 < q.1 ∨ (p.1 = q.1 ∧ p.2.cps.toList < q.2.cps.toList)
theorem ltP_data {p q : Int × Str} (h : ltP p q) : PySem.W.dataLt (pd (isD p)) (pd (isD q)) = true ∧ PySem.W.dataLt (pd (isD q)) (pd (isD p)) = false := by
  have e1 : ∀ p : Int × Str, pd (isD p) = .tuple [.int p.1, .str p.2] := fun p => by unfold isD; simp only [pd, pdA]
  rw [e1, e1, dataLt_is, dataLt_is]
  rcases h with h | ⟨h1, h2⟩
  · rw [decide_eq_true h, decide_eq_false (show ¬ q.1 < p.1 by omega), decide_eq_false (show ¬ q.1 = p.1 by omega)]
    exact ⟨rfl, rfl⟩
  · rw [decide_eq_true h1, decide_eq_true h2, decide_eq_false (show ¬ q.1 < p.1 by omega), decide_eq_false (show ¬ q.2.cps.toList < p.2.cps.toList from List.lt_asymm h2)]
    exact ⟨by simp, by simp⟩
theorem bb_min : bootBuiltins "min" = some (.builtin "min") := by decide +kernel
def minW (ds : List D) (Ψ : D → Prop) : Prop := ∃ (ps : List (Int × Str)) (T : Int × Str), ds = [.lst (ps.map isD)] ∧ T ∈ ps ∧ (∀ q ∈ ps, q = T ∨ ltP T q) ∧ Ψ (isD T)
theorem reads_is {X : Cx} {pins : List (Addr × Obj)} {σ : L2.St} {G H : Hp} {s : Shared} (I : L2.Inv X pins σ H s) (kn : Kn G H) : ∀ {ps : List (Int × Str)} {xs : List V} {us : List Value}, RpA X.K G (ps.map isD) xs → L2.Vals xs us → ∃ as, ReadsAll s.heap us (pdA (ps.map isD)) as
  | [], xs, us, h, r => by
    rw [List.map_nil, RpA.nil_iff] at h; subst h
    cases r
    exact ⟨[], by simp only [List.map_nil, pdA]; exact .nil⟩
  | p :: ps, xs, us, h, r => by
    rw [List.map_cons, RpA.cons_iff] at h
    obtain ⟨x, r', rfl, h1, h2⟩ := h
    cases r with
    | cons r1 r2 =>
    obtain ⟨as, h3⟩ := reads_is I kn h2 r2
    obtain ⟨z, rfl, hz⟩ := isD_rp.mp h1
    cases r1
    obtain ⟨its, rv, ⟨o, e1, e2, n, e3⟩, _⟩ := I.tuple (kn.sqT hz)
    obtain ⟨u1, u2, rfl, ri, rj⟩ := vals2 rv
    obtain ⟨t1, rfl⟩ := ri
    obtain ⟨t3, rfl⟩ := rj
    refine ⟨([] ++ ([] ++ [])) ++ as, ?_⟩
    rw [List.map_cons]
    simp only [pdA]
    refine .cons ?_ h3
    unfold isD
    simp only [pd, pdA]
    exact .tuple e1 e2 e3 (.cons (.int _ _) (.cons (.str _ _) .nil))
theorem isA_depth : ∀ ps : List (Int × Str), PyData.depthAll (pdA (ps.map isD)) ≤ 1
  | [] => Nat.zero_le _
  | p :: ps => by
    have ih := isA_depth ps
    rw [List.map_cons]
    simp only [pdA, PyData.depthAll]
    have : (pd (isD p)).depth = 1 := by unfold isD; simp only [pd, pdA, PyData.depth, PyData.depthAll]; rfl
    omega
theorem isA_mem : ∀ {ps : List (Int × Str)}, ∀ x ∈ pdA (ps.map isD), ∃ p ∈ ps, x = pd (isD p)
  | [], x, m => by simp only [List.map_nil, pdA] at m; cases m
  | p :: ps, x, m => by
    rw [List.map_cons] at m
    simp only [pdA] at m
    rcases List.mem_cons.mp m with m | m
    · exact ⟨p, List.mem_cons_self, m⟩
    · obtain ⟨p', h1, h2⟩ := isA_mem x m
      exact ⟨p', List.mem_cons_of_mem _ h1, h2⟩
theorem isA_get : ∀ {ps : List (Int × Str)} (i : Nat) (p : Int × Str), (pdA (ps.map isD)).getD i .none = pd (isD p) → ∃ p', ps[i]? = some p' ∧ pd (isD p') = pd (isD p)
  | [], i, p, h => by simp only [List.map_nil, pdA] at h; unfold isD at h; simp [pd] at h
  | p0 :: ps, 0, p, h => by
    rw [List.map_cons] at h
    simp only [pdA] at h
    exact ⟨p0, rfl, h⟩
  | p0 :: ps, i + 1, p, h => by
    rw [List.map_cons] at h
    simp only [pdA] at h
    exact isA_get (ps := ps) i p h
theorem isA_in : ∀ {ps : List (Int × Str)}, ∀ p ∈ ps, pd (isD p) ∈ pdA (ps.map isD)
  | [], p, m => nomatch m
  | p0 :: ps, q, m => by
    rw [List.map_cons]
    simp only [pdA]
    rcases List.mem_cons.mp m with m | m
    · rw [m]; exact List.mem_cons_self
    · exact List.mem_cons_of_mem _ (isA_in q m)
section
variable {C : SC}
theorem min_ok [hh : Cold C] : CallS C (.builtin "min") minW := by
  rintro X hX pins s σ H xs us Q I r ⟨G, ds, Ψ, kn, ra, ⟨ps, T, e, hT, hq, hΨ⟩, q⟩
  subst e
  obtain ⟨k, nm, rfl, hO, hK⟩ := id hX
  obtain ⟨x, rfl, rx⟩ := rpa1 ra
  simp only [Rp] at rx
  obtain ⟨z, ys, rfl, hz, hy⟩ := rx
  obtain ⟨its, rv, hl, _⟩ := I.list (SqL.of (kn _ _ hz))
  obtain ⟨u, rfl, ru⟩ := vals1 r
  obtain rfl : u = Value.ref z := ru
  obtain ⟨as, hr⟩ := reads_is I kn hy rv
  have hd := isA_depth ps
  have ha := @isA_mem ps
  have hget := @isA_get ps
  have hinj : ∀ p p' : Int × Str, pd (isD p) = pd (isD p') → p = p' := fun p p' h => by
    unfold isD at h
    simp only [pd, pdA, PyData.tuple.injEq, List.cons.injEq, PyData.int.injEq, PyData.str.injEq, and_true] at h
    exact Prod.ext h.1 h.2
  have hal : PySem.W.AlikeAll (pdA (ps.map isD)) := by
    refine ⟨fun a m b m' => ?_, fun a m => ?_⟩
    · obtain ⟨p, _, rfl⟩ := ha a m
      obtain ⟨p', _, rfl⟩ := ha b m'
      unfold isD
      simp only [pd, pdA, PySem.W.alike, PySem.W.alikeAll]
      rfl
    · obtain ⟨p, _, rfl⟩ := ha a m
      unfold isD
      simp [pd]
  cases hps : ps with
  | nil => rw [hps] at hT; cases hT
  | cons p0 ps0 =>
    have ep : pdA (ps.map isD) = pd (isD p0) :: pdA (ps0.map isD) := by rw [hps, List.map_cons]; simp only [pdA]
    have hmin : PySem.W.minD (pd (isD p0)) (pdA (ps0.map isD)) = pd (isD T) := by
      have h0 := @isA_in ps0
      have hTT : PySem.W.dataLt (pd (isD T)) (pd (isD T)) = false := by
        unfold isD
        simp only [pd, pdA]
        rw [dataLt_is]
        simp
      refine PySem.minD_is ?_ (fun x m => ?_) hTT
      · rw [hps] at hT
        rcases List.mem_cons.mp hT with h | h
        · exact .inl (by rw [h])
        · rcases hq p0 (by rw [hps]; exact List.mem_cons_self) with e | e
          · exact .inl (by rw [e])
          · exact .inr ⟨h0 T h, (ltP_data e).1⟩
      · obtain ⟨p, hp, rfl⟩ := ha x (by rw [ep]; exact List.mem_cons_of_mem _ m)
        rcases hq p hp with e | e
        · exact .inl (by rw [e])
        · exact .inr (ltP_data e)
    rw [ep] at hr hal hd
    refine PySem.min_list_at (I.ok.hd (hK.calm hh.h)) hl.isList (by simpa using hr) hal (by have := Has.hu hK; omega) fun i v h' tk hv hm hk => ?_
    rw [hmin, ← ep] at hm
    obtain ⟨p', h1, h2⟩ := hget i T hm
    obtain rfl := hinj _ _ h2
    obtain ⟨y, h3, h4⟩ := hy.getD (i := i) (d := isD p') (by rw [List.getElem?_map, h1]; rfl)
    obtain ⟨v', h5, h6⟩ := rv.get h3
    have h7 : its[i]? = some v := by simpa using hv
    rw [h7] at h5
    cases h5
    exact ⟨y, H, I.kept hk, h6, q (isD p') y G H hΨ (Grow.refl kn) h4⟩
end
end L3
namespace L3
open PySem PySem.Spec PyProof.Rows L2
open Sem (wp)
/-! ### sleepers stay as they are while code runs that does not know of them
A run from a state in which the sleepers of G are spoilt (what they go on with is stuck) wakes none of them;
so it runs just so from the true state, and leaves them as they are. -/
def spoilt : GenState → GenState
  | .suspended _ l c p fs cl => .suspended (fun _ => .unsupported "spoilt") l c p fs cl
  | x => x
def asleep : GenState → Bool
  | .suspended .. => true
  | _ => false
theorem spoilt_seen (x : GenState) : (spoilt x).seen = x.seen := by cases x <;> rfl
theorem spoilt_bare (x : GenState) : (spoilt x).bare = x.bare := by cases x <;> rfl
theorem spoilt_wake {x : GenState} (h : asleep x = false) : spoilt x = x := by cases x <;> first | rfl | cases h
def plainF (f : Frame) : Bool := match f with
  | .ret .. => true
  | .gen .. => false
def Plain (fs : List Frame) : Prop := ∀ f ∈ fs, plainF f = true
theorem Plain.nil : Plain [] := fun f h => absurd h (by simp)
theorem Plain.split : ∀ {fs : List Frame}, Plain fs → splitAtGen fs = none
  | [], _ => rfl
  | .ret k h g l c p kp :: fs, h' => by
    show (splitAtGen fs).map _ = none
    rw [Plain.split fun f hf => h' f (List.mem_cons_of_mem _ hf)]; rfl
  | .gen g k l c p :: fs, h' => by have := h' _ List.mem_cons_self; cases this
def PlainG (x : GenState) : Prop := match x with
  | .suspended _ _ _ _ fs _ => Plain fs
  | _ => True
/-- b is a, but that the sleepers of G are spoilt in a -/
structure ShG (G a b : Array GenState) : Prop where
  size : b.size = a.size
  old : ∀ (i : Nat) x, G[i]? = some x → asleep x = true → a[i]? = some (spoilt x) ∧ b[i]? = some x
  new : ∀ (i : Nat) x, a[i]? = some x → (∀ y, G[i]? = some y → asleep y = false) → b[i]? = some x ∧ PlainG x
section
variable {G a b : Array GenState} {i : Nat} {x : GenState}
theorem ShG.cases (h : ShG G a b) (i : Nat) : (∃ x, G[i]? = some x ∧ asleep x = true ∧ a[i]? = some (spoilt x) ∧ b[i]? = some x) ∨ (∀ y, G[i]? = some y → asleep y = false) := by
  cases e : G[i]? with
  | none => exact .inr (fun y ey => by cases ey)
  | some x =>
    cases z : asleep x with
    | true => exact .inl ⟨x, rfl, z, h.old i x e z⟩
    | false => exact .inr fun y ey => by cases ey; exact z
theorem ShG.at (h : ShG G a b) (e : a[i]? = some x) : ∃ y, b[i]? = some y ∧ y.seen = x.seen := by
  rcases h.cases i with ⟨y, _, _, h1, h2⟩ | h1
  · rw [h1] at e; cases e; exact ⟨y, h2, (spoilt_seen y).symm⟩
  · exact ⟨x, (h.new i x e h1).1, rfl⟩
theorem ShG.set (h : ShG G a b) (hi : ∀ y, G[i]? = some y → asleep y = false) (hx : PlainG x) : ShG G (a.setIfInBounds i x) (b.setIfInBounds i x) := by
  refine ⟨by rw [Array.size_setIfInBounds, Array.size_setIfInBounds, h.size], fun j y e z => ?_, fun j y e z => ?_⟩
  · have ne : i ≠ j := fun q => by subst q; rw [hi y e] at z; cases z
    rw [Array.getElem?_setIfInBounds_ne ne, Array.getElem?_setIfInBounds_ne ne]
    exact h.old j y e z
  · by_cases q : i = j
    · subst q
      have hs : i < a.size := by
        have := (Array.getElem?_eq_some_iff.mp e).1
        rw [Array.size_setIfInBounds] at this; exact this
      have hs2 : i < b.size := by rw [h.size]; exact hs
      rw [Array.getElem?_setIfInBounds_self_of_lt hs] at e
      cases e
      rw [Array.getElem?_setIfInBounds_self_of_lt hs2]
      exact ⟨rfl, hx⟩
    · rw [Array.getElem?_setIfInBounds_ne q] at e
      rw [Array.getElem?_setIfInBounds_ne q]
      exact h.new j y e z
theorem ShG.push (h : ShG G a b) (hx : PlainG x) (hw : asleep x = false) : ShG G (a.push x) (b.push x) := by
  refine ⟨by rw [Array.size_push, Array.size_push, h.size], fun j y e z => ?_, fun j y e z => ?_⟩
  · obtain ⟨h1, h2⟩ := h.old j y e z
    have l1 := (Array.getElem?_eq_some_iff.mp h1).1
    have l2 := (Array.getElem?_eq_some_iff.mp h2).1
    rw [Array.getElem?_push_lt l1, Array.getElem?_push_lt l2]
    rw [Array.getElem?_eq_getElem l1] at h1
    rw [Array.getElem?_eq_getElem l2] at h2
    exact ⟨h1, h2⟩
  · have hj := (Array.getElem?_eq_some_iff.mp e).1
    rw [Array.size_push] at hj
    by_cases q : j = a.size
    · subst q
      rw [Array.getElem?_push_size] at e
      cases e
      rw [← h.size, Array.getElem?_push_size]
      exact ⟨rfl, hx⟩
    · have l1 : j < a.size := by omega
      rw [Array.getElem?_push_lt l1] at e
      obtain ⟨h1, h2⟩ := h.new j y (by rw [Array.getElem?_eq_getElem l1]; exact e) z
      have l2 := (Array.getElem?_eq_some_iff.mp h1).1
      rw [Array.getElem?_push_lt l2]
      rw [Array.getElem?_eq_getElem l2] at h1
      exact ⟨h1, h2⟩
theorem ShG.start (G : Array GenState) : ShG G (G.map spoilt) G := by
  refine ⟨by rw [Array.size_map], fun i x e z => ⟨by rw [Array.getElem?_map, e]; rfl, e⟩, fun i x e z => ?_⟩
  rw [Array.getElem?_map] at e
  obtain ⟨y, hy, rfl⟩ := Option.map_eq_some_iff.mp e
  have hw := z y hy
  rw [spoilt_wake hw]
  exact ⟨hy, by cases y <;> simp_all [asleep, PlainG]⟩
theorem ShG.bare (h : ShG G a b) (ha : AllBare a) : AllBare b := fun y hy => by
  obtain ⟨i, hi⟩ := Array.getElem?_of_mem hy
  have hs : i < a.size := by rw [← h.size]; exact (Array.getElem?_eq_some_iff.mp hi).1
  have e : a[i]? = some a[i] := Array.getElem?_eq_getElem hs
  rcases h.cases i with ⟨x, _, _, h1, h2⟩ | h1
  · rw [hi] at h2; cases h2
    rw [← spoilt_bare]
    exact ha _ (Array.mem_of_getElem? h1)
  · have h2 := (h.new i _ e h1).1
    rw [hi] at h2; cases h2
    exact ha _ (Array.mem_of_getElem? e)
end
abbrev withG (s : Shared) (g : Array GenState) : Shared := { s with gens := g }
theorem inv_gens {X : Cx} {pins : List (Addr × Obj)} {σ : L2.St} {H : Hp} {s : Shared} (I : L2.Inv X pins σ H s) {g : Array GenState} (h : AllBare g) : L2.Inv X pins σ H (withG s g) :=
  ⟨I.ok, I.os, h, I.base, I.loc, I.cell, I.free, I.freeC, I.pin, I.hok, I.len⟩
end L3
namespace L3
open PySem PySem.Spec PyProof.Rows L2 GenW
open Sem (wp)
/-! ### what code comes to: its end, or where it hands something out -/
def WE (M : Model) (A : Around) (Φ : End → Shared → Prop) (c : Code) (t : Sem PySem.Fin) (fs : List Frame) (s : Shared) : Prop :=
  ∀ (Γ : PySem.Ctx) (p : Pos), Γ.code = c → Γ.Woken A → ∃ e s', Runs M Γ p t fs s e s' ∧ Φ e s'
abbrev NoX : Value → Shared → Prop := fun _ _ => False
section
variable {M : Model} {A : Around} {Φ : End → Shared → Prop} {c : Code} {fs : List Frame} {s : Shared}
theorem we_wrap {α : Type} {m : Sem α} {f : α → Sem PySem.Fin} {j : Value → Sem PySem.Fin} {gd : Bool → Bool} {lv : List Value → List Value}
    (h : wpAny M (A.over c fs) m (fun a s' => WE M A Φ c (f a) fs s') NoX s) : WE M A Φ c (m.wrap f j gd lv) fs s := by
  rintro Γ p rfl hΓ
  exact runs_wrap_of_wp f j gd lv m (h (Γ.over fs) p (hΓ.over fs)) (fun a p' s' q => q Γ p' rfl hΓ) (fun x p' s' q => q.elim)
theorem we_at {q : Pos} {k : Unit → Sem PySem.Fin} (h : WE M A Φ c (k ()) fs s) : WE M A Φ c (.at q k) fs s :=
  we_wrap (m := standAt q) (f := k) (j := .raise) (gd := id) (lv := id) (wpAny_standAt h)
theorem we_yield {v g l} {k : Resume → Sem PySem.Fin} (hfs : splitAtGen fs = none) (h : ∀ p, Φ (.susp v g l k c p fs) s) : WE M A Φ c (.yield v g l k) fs s := by
  rintro Γ p rfl _
  exact ⟨_, s, Runs.yield' fs hfs, h p⟩
end
section
variable {M : Model} {A : Around} {Φ : End → Shared → Prop} {c : Code} {fs : List Frame} {s : Shared} {env : PySem.Env} {f : Flow → Sem PySem.Fin} {j : Value → Sem PySem.Fin} {gd : Bool → Bool} {lv : List Value → List Value}
theorem we_nil (h : WE M A Φ c (f .next) fs s) : WE M A Φ c ((execs [] env).wrap f j gd lv) fs s := h
theorem we_cons {st : Stmt} {rest : List Stmt} (h : WE M A Φ c ((exec st env).wrap (fun x => match x with | .next => (execs rest env).wrap f j gd lv | x => f x) j gd lv) fs s) : WE M A Φ c ((execs (st :: rest) env).wrap f j gd lv) fs s := by
  rw [execs_cons_wrap]; exact h
theorem we_Yield {e : Expr} {yp pos : Pos} (hfs : splitAtGen fs = none) (hgd : gd false = false) (h : wpAny M (A.over c fs) (eval e env) (fun v s' => ∀ l k p, k (.send .none) = f .next → Φ (.susp v false l k c p fs) s') NoX s)
    (hco : env.scope.isCoroutine = false := by rfl) (hi : interactive env = false := by rfl) : WE M A Φ c ((exec (.Expr (.Yield (some e) yp) pos) env).wrap f j gd lv) fs s := by
  rw [exec_Expr env _ pos hi rfl]
  show WE M A Φ c (.at pos fun _ => ((eval e env >>= fun v => (standAt yp >>= fun _ => yieldOut env v)) >>= fun x => dropValue (.Yield (some e) yp) pos x).wrap f j gd lv) fs s
  have hy : ∀ v, yieldOut env v = yieldValue v := fun v => by simp only [yieldOut, hco, Bool.false_eq_true, if_false]
  simp only [hy]
  refine we_at ?_
  rw [Sem.bind_eq_wrap', Sem.bind_eq_wrap', Sem.wrap_wrap, Sem.wrap_wrap]
  refine we_wrap (wpAny_mono h (fun v s' q => ?_) fun _ _ z => z)
  refine we_at (we_yield hfs fun p => ?_)
  show Φ (.susp v (gd false) _ _ c p fs) s'
  rw [hgd]
  exact q _ _ p rfl
end
end L3
namespace L3
open PySem PySem.Spec PyProof.Rows L2 GenW
/-! ### a generator sleeps and wakes: its context is laid anew at each wake -/
/-- the objects below n -/
def cutH (h : Heap) (n : Nat) : Heap := { h with objs := h.objs.extract 0 n }
theorem cutH_size (h : Heap) (n : Nat) : (cutH h n).objs.size = min n h.objs.size := by
  show (h.objs.extract 0 n).size = _
  rw [Array.size_extract]; omega
theorem cutH_get (h : Heap) {n b : Nat} (hb : b < n) : (cutH h n).get? b = h.get? b := by
  unfold Heap.get? cutH
  have : (h.objs.extract 0 n)[b]? = h.objs[b]? := by
    rw [Array.getElem?_extract]
    by_cases z : b < h.objs.size
    · rw [if_pos (by omega), Nat.zero_add]
    · rw [if_neg (by omega), Array.getElem?_eq_none (by omega)]
  dsimp only
  rw [this]
theorem cutH_of {h : Heap} {n b : Nat} {o : Obj} (e : (cutH h n).get? b = some o) : b < n ∧ h.get? b = some o := by
  have h1 := Heap.lt_size e
  rw [cutH_size] at h1
  have h2 : b < n := Nat.lt_of_lt_of_le h1 (Nat.min_le_left _ _)
  rw [cutH_get h h2] at e
  exact ⟨h2, e⟩
def cutSh (n : Nat) (s : Shared) : Shared := { s with heap := cutH s.heap n }
/-- the context, laid anew at s where H is known -/
def reX (X : Cx) (s : Shared) (H : Hp) : Cx := { X with s_0 := cutSh X.env.locals s, H_0 := H }
theorem funs_cut {h h0 base : Heap} {n : Nat} (hn : h0.objs.size ≤ n) : ∀ {l : List PySem.Env}, h.FunFrames base l → h0.FunFrames base l → (cutH h n).FunFrames base l
  | [], _, _ => trivial
  | env :: l, ⟨k, ⟨L, o, e1, e2, e3, e4⟩, r⟩, ⟨_, ⟨L', o', f1, _, f3, _⟩, r'⟩ => by
    rw [e1] at f1; cases f1
    exact ⟨k, ⟨L, o, e1, e2, by rw [cutH_get _ (Nat.lt_of_lt_of_le (Heap.lt_size f3) hn)]; exact e3, e4⟩, funs_cut hn r r'⟩
/-- what is the same of a generator's context and its consumer's -/
structure GenOf (X Xc : Cx) : Prop where
  prog : X.prog = Xc.prog
  w : X.w = Xc.w
  K : X.K = Xc.K
  mg : X.mg = Xc.mg
  base : X.base = Xc.base
  outer : X.outer = Xc.stack
  ex : X.ex = []
  cells : X.env.cells = []
/-- a context laid anew -/
theorem relay {Y : Cx} {ip : List (Addr × Obj)} {σ : L2.St} {H H' : Hp} {s s' : Shared} {pn' : List (Addr × Obj)} {xe' : Value → Shared → Prop} (J : L2.Inv Y ip σ H s) (hex : Y.ex = []) (hcl : Y.env.cells = []) (bare : AllBare s'.gens)
    (hb : ∀ b o, Y.base.get? b = some o → s'.heap.get? b = some o ∧ H' b = none) (hbs : Y.base.objs.size ≤ s'.heap.objs.size) (hf : s'.heap.FunFrames Y.base Y.outer) (hfr : ∀ b ∈ frs Y.outer, H' b = none) (hok : HOk Y.prog Y.w H' s'.heap)
    {oL : Obj} (hL : s.heap.get? Y.env.locals = some oL) (hL' : s'.heap.get? Y.env.locals = some oL) (fL : H' Y.env.locals = none)
    (hp : ∀ p ∈ pn' ++ ip, s'.heap.get? p.1 = some p.2 ∧ H' p.1 = none ∧ p.1 ≠ Y.env.locals ∧ p.1 ∉ frs Y.outer ∧ ∀ v, p.2.data ≠ .cell v) : L2.Inv { reX Y s' H' with pn := pn', xe := xe' } ip σ H' s' := by
  have Jo := J.ok
  have noc : ∀ {x : Str} {c : Addr}, Y.env.cells.lookup x = some c → False := fun {x c} e => by rw [hcl] at e; cases e
  have hbl : Y.base.objs.size ≤ Y.env.locals := Nat.le_trans Jo.bsz Jo.above
  have noe : ∀ b : Addr, b ∈ Y.ex → False := fun b hb => by rw [hex] at hb; cases hb
  refine ⟨⟨Jo.mod, Jo.kind, Jo.glob, Jo.blt, ?_, Jo.inj, Jo.has, fun x c _ e => (noc e).elim, Jo.hd, Jo.frames, Jo.stk, fun b hb => (noe b hb).elim, fun b o e => ?_, ?_, fun b o _ hb => noe b hb, fun b hb => (noe b hb).elim, funs_cut Jo.above hf Jo.funs, hfr⟩, rfl, bare, ⟨fun b o e _ _ _ => (cutH_of e).2, fun b o e _ _ _ => ⟨o.slots, (cutH_of e).2⟩, fun b o e n _ => n, fun b o e _ => ⟨o, (cutH_of e).2⟩, fun _ _ e => e, fun _ _ _ e => e, fun b ps e => ⟨#[], by rw [Array.append_empty]; exact e⟩⟩, ?_, fun x c e => (noc e).elim, fL, fun x c e => (noc e).elim, hp, hok, J.len⟩
  · show (cutH s'.heap Y.env.locals).objs.size ≤ Y.env.locals
    rw [cutH_size]; exact Nat.min_le_left _ _
  · obtain ⟨e1, e2⟩ := hb b o e
    exact ⟨by show (cutH s'.heap Y.env.locals).get? b = some o; rw [cutH_get _ (Nat.lt_of_lt_of_le (Heap.lt_size e) hbl)]; exact e1, e2⟩
  · show Y.base.objs.size ≤ (cutH s'.heap Y.env.locals).objs.size
    rw [cutH_size]
    exact Nat.le_min.mpr ⟨hbl, hbs⟩
  · obtain ⟨m, ⟨o, es, ep, ho, r⟩, hm⟩ := J.loc
    rw [hL] at ho; cases ho
    refine ⟨m, ⟨_, es, ep, hL', r⟩, fun i x v h1 h2 h3 => ?_⟩
    obtain ⟨u, r1, h4⟩ := hm i x v h1 h2 h3
    rcases h4 with h4 | ⟨_, c, e, _⟩
    · exact ⟨u, r1, .inl h4⟩
    · exact (noc e).elim
section
variable {X Xc : Cx} {pins ip : List (Addr × Obj)} {σ σc : L2.St} {H H' Hw : Hp} {s s' s0 : Shared}
/-- it wakes: the consumer let its frame and its own object be -/
theorem wake (g : GenOf X Xc) (J : L2.Inv (reX X s0 Hw) ip σ H s) (I : L2.Inv Xc pins σc H' s') {oL : Obj} (hL : s.heap.get? X.env.locals = some oL) (pL : (X.env.locals, oL) ∈ pins) (pn : ∀ p ∈ X.pn ++ ip, p ∈ pins) : L2.Inv (reX X s' H') ip σ H' s' := by
  have e0 := I.env0
  have hLp := I.pin _ (List.mem_append_right _ pL)
  refine relay (Y := reX X s0 Hw) (pn' := X.pn) (xe' := X.xe) J g.ex g.cells I.bare (fun b o e => ?_) ?_ ?_ (fun b hb => ?_) ?_ hL hLp.1 hLp.2.1 fun p hp => ?_
  · have e : Xc.base.get? b = some o := by rw [← g.base]; exact e
    exact I.bs b o e
  · show X.base.objs.size ≤ _
    rw [g.base]
    exact Nat.le_trans I.ok.bsz I.sz
  · show s'.heap.FunFrames X.base X.outer
    rw [g.base, g.outer]
    exact e0.funs
  · have hb : b ∈ frs X.outer := hb
    rw [g.outer] at hb
    exact e0.frf b hb
  · show HOk X.prog X.w H' s'.heap
    rw [g.prog, g.w]; exact I.hok
  · obtain ⟨q1, q2, _⟩ := I.pin p (List.mem_append_right _ (pn p hp))
    obtain ⟨_, _, q3, q4, q5⟩ := J.pin p hp
    exact ⟨q1, q2, q3, q4, q5⟩
/-- it sleeps again, or ends: the consumer's things stand as it knows them -/
theorem back (g : GenOf X Xc) (I : L2.Inv Xc pins σc H s') {gs : Array GenState} (J : L2.Inv (reX X (withG s' gs) H) ip σ H' s) (hl : Xc.env.locals < X.env.locals) (hc : ∀ x c, Xc.env.cells.lookup x = some c → c < X.env.locals) (hp : ∀ p ∈ Xc.pn ++ pins, p.1 < X.env.locals) : L2.Inv Xc pins σc H' s := by
  have hx : (reX X (withG s' gs) H).ex = [] := g.ex
  have hf : (reX X (withG s' gs) H).fs = frs Xc.stack := by show frs X.outer = _; rw [g.outer]
  have B := J.base
  have nx : ∀ b : Addr, b ∉ (reX X (withG s' gs) H).ex := fun b hb => by rw [hx] at hb; cases hb
  have low : ∀ b o, s'.heap.get? b = some o → b ∉ (List.range s'.heap.objs.size).filter (fun b => decide (X.env.locals ≤ b)) → (cutH s'.heap X.env.locals).get? b = some o := fun b o e hb => by
    have h1 := Heap.lt_size e
    have h2 : b < X.env.locals := by
      rcases Nat.lt_or_ge b X.env.locals with z | z
      · exact z
      · exact absurd (List.mem_filter.mpr ⟨List.mem_range.mpr h1, decide_eq_true z⟩) hb
    rw [cutH_get _ h2]; exact e
  refine I.call' (ch := (List.range s'.heap.objs.size).filter (fun b => decide (X.env.locals ≤ b))) J.os ⟨fun b o e n hb hc => ?_, fun b o e n hb hc => ?_, fun b o e n hc => ?_, fun b o e hc => ?_, B.tups, B.frzs, B.tbls⟩ ?_ J.bare fun b hb => ?_
  · exact B.keep b o (low b o e hc) n (by rw [hf]; exact hb) (nx b)
  · exact B.slot b o (low b o e hc) n (by rw [hf]; exact hb) (nx b)
  · exact B.free b o (low b o e hc) n (nx b)
  · exact B.there b o (low b o e hc) (nx b)
  · have := J.hok
    show HOk Xc.prog Xc.w H' s.heap
    rw [← g.prog, ← g.w]; exact this
  · obtain ⟨_, hb2⟩ := List.mem_filter.mp hb
    have hb2 : X.env.locals ≤ b := of_decide_eq_true hb2
    have h3 := I.ok.above
    exact ⟨.inr (Nat.le_trans h3 (Nat.le_trans (Nat.le_of_lt hl) hb2)), Nat.ne_of_gt (Nat.lt_of_lt_of_le hl hb2), fun x c e => Nat.ne_of_lt (Nat.lt_of_lt_of_le (hc x c e) hb2), fun p hpp => Nat.ne_of_lt (Nat.lt_of_lt_of_le (hp p hpp) hb2)⟩
end
end L3
namespace L3
open PySem PySem.Spec PyProof.Rows L2 GenW
/-! ### the body of a generator, told by data -/
/-- what is wanted where code ends or hands out; a ghost goes along -/
def PhiG (M : Model) (A : Around) {γ : Type} (R : Nat → γ → Shared → Result → Shared → Prop) (Y : Nat → γ → Shared → Value → Shared → (γ → Shared → Prop) → Prop) : Nat → γ → Shared → End → Shared → Prop
  | 0, t, s₀, .ret r, s => R 0 t s₀ r s
  | 0, _, _, .susp .., _ => False
  | n + 1, t, s₀, .ret r, s => R (n + 1) t s₀ r s
  | n + 1, t, s₀, .susp v gd _ k c _ fs, s => (gd || fs.any Frame.guarded) = false ∧ Y n t s₀ v s fun t' s' => WE M A (PhiG M A R Y n t' s') c (k (.send .none)) fs s'
/-- a generator: its context, where it is woken, what it hands out, what was known when it was made -/
structure GRn where
  X : Cx
  A : Around
  ds : List D
  Gs : Hp
  Hs : Hp
abbrev Gho := Nat × Hp × Hp
abbrev GRn.L (g : GRn) : Addr := g.X.env.locals
abbrev GRn.M (g : GRn) : Model := model g.X.prog g.X.w
def rEnd (g : GRn) : Nat → Gho → Shared → Result → Shared → Prop := fun n t s₀ r s =>
  (r = .ok (.ret .none) ∨ r = .ok .next) ∧ t.1 = g.ds.length ∧ ∃ σ G H, Kn t.2.1 G ∧ Grow noFoot noFoot g.Gs g.Hs G H ∧ L2.Inv (reX g.X s₀ t.2.2) [] σ H s
def yItem (g : GRn) : Nat → Gho → Shared → Value → Shared → (Gho → Shared → Prop) → Prop := fun n t s₀ v s kap =>
  ∃ d x σ G H ip, g.ds[t.1]? = some d ∧ RelV x v ∧ Rp g.X.K G d x ∧ Kn t.2.1 G ∧ Grow noFoot noFoot g.Gs g.Hs G H ∧ L2.Inv (reX g.X s₀ t.2.2) ip σ H s ∧ (∀ p ∈ ip, g.L ≤ p.1) ∧
    ∀ G' H' s', Grow noFoot noFoot G H G' H' → L2.Inv (reX g.X s' H') ip σ H' s' → g.L < s'.heap.objs.size → kap (t.1 + 1, G', H') s'
def PhiL (g : GRn) : Nat → Gho → Shared → End → Shared → Prop := PhiG g.M g.A (rEnd g) (yItem g)
abbrev WG (g : GRn) (n : Nat) (t : Gho) (s₀ : Shared) (c : Code) (tr : Sem PySem.Fin) (fs : List Frame) (s : Shared) : Prop := WE g.M g.A (PhiL g n t s₀) c tr fs s
/-- where its code stands -/
structure GAt (g : GRn) (c : Code) (fs : List Frame) (gd : Bool → Bool) : Prop where
  over : g.A.over c fs = g.X.A
  split : splitAtGen fs = none
  guard : fs.any Frame.guarded = false
  gd : gd false = false
  co : g.X.env.scope.isCoroutine = false
  act : interactive g.X.env = false
  ex : g.X.ex = []
/-- how it stands amid its run -/
structure GSt (C : SC) (g : GRn) (ip : List (Addr × Obj)) (Gf : Hp) (E : NE) (i n : Nat) (t : Gho) (s₀ : Shared) (σ : L2.St) (G H : Hp) (s : Shared) : Prop where
  num : n + i = g.ds.length
  it : t.1 = i
  gw : Grow noFoot noFoot g.Gs g.Hs t.2.1 t.2.2
  env : Env C A0 ⟨t.2.1, noFoot⟩ g.Hs () G H E σ
  inv : L2.Inv (reX g.X s₀ t.2.2) ip σ H s
  lt : g.L < s₀.heap.objs.size
  ips : ∀ p ∈ ip, g.L ≤ p.1
  flo : Kn Gf G
structure GPost where
  nx : NE → Nat → Prop
  bk : NE → Nat → Prop := fun _ _ => False
  ct : NE → Nat → Prop := fun _ _ => False
structure GCont (C : SC) (g : GRn) (ip : List (Addr × Obj)) (Gf : Hp) (c : Code) (fs : List Frame) (f : Flow → Sem PySem.Fin) (P : GPost) : Prop where
  nx : ∀ E i n t s₀ σ G H s, P.nx E i → GSt C g ip Gf E i n t s₀ σ G H s → WG g n t s₀ c (f .next) fs s
  bk : ∀ E i n t s₀ σ G H s, P.bk E i → GSt C g ip Gf E i n t s₀ σ G H s → WG g n t s₀ c (f .brk) fs s
  ct : ∀ E i n t s₀ σ G H s, P.ct E i → GSt C g ip Gf E i n t s₀ σ G H s → WG g n t s₀ c (f .cont) fs s
/-- a context where nothing is raised at all -/
structure HasN (C : SC) (X : Cx) : Prop where
  has : Has C X
  nox : ∀ e s, ¬ X.xe e s
  no : C.nx.xs = XS.no
def GStK (C : SC) (ds : List D) (st : Stmt) (E : NE) (i : Nat) (P : GPost) : Prop :=
  ∀ (g : GRn) ip Gf c fs f j gd lv, g.ds = ds → HasN C g.X → GAt g c fs gd → GCont C g ip Gf c fs f P → ∀ n t s₀ σ G H s, GSt C g ip Gf E i n t s₀ σ G H s → WG g n t s₀ c ((exec st g.X.env).wrap f j gd lv) fs s
def GRunK (C : SC) (ds : List D) (sts : List Stmt) (E : NE) (i : Nat) (P : GPost) : Prop :=
  ∀ (g : GRn) ip Gf c fs f j gd lv, g.ds = ds → HasN C g.X → GAt g c fs gd → GCont C g ip Gf c fs f P → ∀ n t s₀ σ G H s, GSt C g ip Gf E i n t s₀ σ G H s → WG g n t s₀ c ((execs sts g.X.env).wrap f j gd lv) fs s
theorem has_re {C : SC} {X : Cx} (h : HasN C X) (s : Shared) (H : Hp) : Has C (reX X s H) := by
  obtain ⟨⟨k, nm, e, hn, hK⟩, _, hno⟩ := h
  have z : nm.xs = XS.no := by rw [e] at hno; exact hno
  exact ⟨k, nm, e, hn, hK.calm, hK.room, hK.gd, hK.un, hK.nd, hK.pass, by rw [z]; exact takes_no, hK.fr, by rw [z]; exact fun _ _ _ w => nomatch w⟩
theorem HasN.calm {C : SC} {X : Cx} (h : HasN C X) : X.calm = true := by
  obtain ⟨⟨k, nm, e, hn, hK⟩, _, hno⟩ := h
  refine hK.calm ?_
  rw [e] at hno
  have z : nm.xs = XS.no := hno
  rw [z]; rfl
theorem Has.k {C : SC} {X : Cx} (h : Has C X) : C.K = X.K := by obtain ⟨k, nm, rfl, hn, hK⟩ := h; rfl
theorem HasN.k {C : SC} {X : Cx} (h : HasN C X) : C.K = X.K := h.has.k
section
variable {C : SC} {ds : List D} {E : NE} {i : Nat} {P : GPost} {st : Stmt} {sts rest body : List Stmt} {pos yp : Pos} {c e tg iter : Expr} {xs : List Str}
theorem g_nil (q : P.nx E i) : GRunK C ds [] E i P := fun g ip Gf c fs f j gd lv _ _ _ k n t s₀ σ G H s z => we_nil (k.nx E i n t s₀ σ G H s q z)
theorem g_cons (h : GStK C ds st E i { P with nx := fun E' i' => GRunK C ds rest E' i' P }) : GRunK C ds (st :: rest) E i P := by
  intro g ip Gf c fs f j gd lv hd hX ha k n t s₀ σ G H s z
  refine we_cons (h g ip Gf c fs _ j gd lv hd hX ha ⟨fun E' i' n' t' s' σ' G' H' s2 q z' => ?_, fun E' i' n' t' s' σ' G' H' s2 q z' => ?_, fun E' i' n' t' s' σ' G' H' s2 q z' => ?_⟩ n t s₀ σ G H s z)
  · exact q g ip Gf c fs f j gd lv hd hX ha k n' t' s' σ' G' H' s2 z'
  · exact k.bk E' i' n' t' s' σ' G' H' s2 q z'
  · exact k.ct E' i' n' t' s' σ' G' H' s2 q z'
/-- a statement that hands nothing out -/
theorem g_plain (h : StK C A0 st E () ⟨fun E' _ => P.nx E' i, fun _ _ => False, fun E' _ => P.bk E' i, fun E' _ => P.ct E' i⟩) : GStK C ds st E i P := by
  intro g ip Gf c fs f j gd lv hd hX ha k n t s₀ σ G H s z
  refine we_wrap ?_
  rw [ha.over]
  have q := h ⟨G, noFoot⟩ g.Hs G H σ ⟨fun σ' H' => ∃ E' G', P.nx E' i ∧ Env C A0 ⟨G, noFoot⟩ g.Hs () G' H' E' σ', fun _ _ => False, fun σ' H' => ∃ E' G', P.bk E' i ∧ Env C A0 ⟨G, noFoot⟩ g.Hs () G' H' E' σ', fun σ' H' => ∃ E' G', P.ct E' i ∧ Env C A0 ⟨G, noFoot⟩ g.Hs () G' H' E' σ'⟩ (z.env.up z.env.gr (Kn.refl _))
    ⟨fun E' _ G' H' σ' p he => ⟨E', G', p, he⟩, fun E' _ G' H' σ' p he => ⟨E', G', p, he⟩, fun E' _ G' H' σ' p he => ⟨E', G', p, he⟩, fun _ _ _ _ _ p _ _ _ => p⟩ (reX g.X s₀ t.2.2) ip s (has_re hX _ _) z.inv
  refine wpAny_mono q (fun fl s' r => ?_) fun e s' r => hX.nox e s' r
  cases fl with
  | next => obtain ⟨σ', H', I', E', G', p, he⟩ := r; exact k.nx E' i n t s₀ σ' G' H' s' p ⟨z.num, z.it, z.gw, he.down z.env.gr z.env.ln, I', z.lt, z.ips, z.flo.trans he.gr.gg⟩
  | brk => obtain ⟨σ', H', I', E', G', p, he⟩ := r; exact k.bk E' i n t s₀ σ' G' H' s' p ⟨z.num, z.it, z.gw, he.down z.env.gr z.env.ln, I', z.lt, z.ips, z.flo.trans he.gr.gg⟩
  | cont => obtain ⟨σ', H', I', E', G', p, he⟩ := r; exact k.ct E' i n t s₀ σ' G' H' s' p ⟨z.num, z.it, z.gw, he.down z.env.gr z.env.ln, I', z.lt, z.ips, z.flo.trans he.gr.gg⟩
  | ret u => obtain ⟨v, σ', H', I', _, p⟩ := r; exact p.elim
/-- something is handed out -/
theorem g_yield (h : EvK C A0 e E () fun d _ => ds[i]? = some d ∧ P.nx E (i + 1)) : GStK C ds (.Expr (.Yield (some e) yp) pos) E i P := by
  intro g ip Gf c fs f j gd lv hd hX ha k n t s₀ σ G H s z
  refine we_Yield ha.split ha.gd ?_ ha.co ha.act
  rw [ha.over]
  have q := h ⟨t.2.1, noFoot⟩ g.Hs G H σ z.env (fun v H' => ∃ d G', (ds[i]? = some d ∧ P.nx E (i + 1)) ∧ Grow noFoot noFoot G H G' H' ∧ Rp C.K G' d v) (fun d _ v G' H' p gr _ r => ⟨d, G', p, gr, r⟩) (reX g.X s₀ t.2.2) ip s (has_re hX _ _) z.inv
  refine wpAny_mono q (fun u s' r => ?_) fun e s' r => hX.nox e s' r
  obtain ⟨v, H', I', rv, d, G', ⟨hi, p⟩, gr, rd⟩ := r
  intro l kk q hkk
  have hlt : i < ds.length := (List.getElem?_eq_some_iff.mp hi).1
  have hn := z.num
  rw [hd] at hn
  obtain ⟨m, rfl⟩ : ∃ m, n = m + 1 := ⟨n - 1, by omega⟩
  have he := z.env.go (u' := ()) gr trivial
  have hit := z.it
  refine ⟨by rw [Bool.false_or]; exact ha.guard, d, v, σ, G', H', ip, by rw [hd, hit]; exact hi, rv, by rw [← hX.k]; exact rd, he.gr.gg, z.gw.down he.gr, I', z.ips, fun G'' H'' s'' gr2 I'' lt'' => ?_⟩
  rw [hkk]
  have he2 := he.go (u' := ()) gr2 trivial
  refine k.nx E (i + 1) m (t.1 + 1, G'', H'') s'' σ G'' H'' s'' p ⟨by rw [hd]; omega, by rw [hit], ?_, he2.up he2.gr (Kn.refl _), I'', lt'', z.ips, (z.flo.trans gr.gg).trans gr2.gg⟩
  exact z.gw.down he2.gr
end
end L3
namespace L3
open PySem PySem.Spec PyProof.Rows L2 GenW
open Sem (wp)
/-! ### next of a generator -/
/-- it can be woken -/
def Ready (M : Model) (A : Around) (Φ : End → Shared → Prop) (gs : GenState) (s : Shared) : Prop := match gs with
  | .fresh c => WE M A Φ c (M.den c) [] s
  | .suspended k _ c _ fs _ => WE M A Φ c (k (.send .none)) fs s
  | _ => False
section
variable {M : Model} {A : Around} {Φ : End → Shared → Prop}
theorem we_resume {E : Value → Shared → Prop} {s : Shared} {g : Nat} {gs : GenState} {l : List Value} {α : Type} {k : GenResult → Sem α} {Q : α → Shared → Prop} (hg : s.gens[g]? = some gs) (hr : Ready M A Φ gs (s.setGen g .running))
    (h : ∀ e s1, Φ e s1 → s.gens.size ≤ s1.gens.size → e.quiet = true ∧ wpAny M A (k e.result) Q E (s1.setGen g e.genState)) : wpAny M A (.resume g (.send .none) l k) Q E s := by
  intro Γ p hΓ
  rw [Sem.wp_resume]
  cases gs with
  | fresh c =>
    obtain ⟨e1, s1, hrun, he⟩ := hr (Γ.wake c p) p rfl (hΓ.wake c p)
    have hs := runs_gsz hrun
    rw [setGen_size] at hs
    obtain ⟨q1, q2⟩ := h e1 s1 he hs
    exact ⟨_, _, by unfold Wakes; rw [hg]; exact ⟨e1, s1, hrun, q1, rfl, rfl⟩, q2 Γ p hΓ⟩
  | suspended k0 l0 c0 p0 fs0 cl =>
    obtain ⟨e1, s1, hrun, he⟩ := hr (Γ.wake c0 p) p0 rfl (hΓ.wake c0 p)
    have hs := runs_gsz hrun
    rw [setGen_size] at hs
    obtain ⟨q1, q2⟩ := h e1 s1 he hs
    exact ⟨_, _, by unfold Wakes; rw [hg]; exact ⟨e1, s1, hrun, q1, rfl, rfl⟩, q2 Γ p hΓ⟩
  | running => exact hr.elim
  | finished => exact hr.elim
end
section
variable {P : Program} {w : World} {A : Around} {Φ : End → Shared → Prop} {E : Value → Shared → Prop} {s : Shared}
theorem next_we {a : Addr} {g : Nat} {gs : GenState} {Q : Option Value → Shared → Prop} (hh : A.handled = none) (hl : s.heap.NoLimit) (hroom : A.depth < recursionLimit) (hg : s.heap.IsGen a g) (hgs : s.gens[g]? = some gs)
    (hr : Ready (model P w) A.in1 Φ gs (s.setGen g .running))
    (hend : ∀ r s1, Φ (.ret r) s1 → s.gens.size ≤ s1.gens.size → (r = .ok (.ret .none) ∨ r = .ok .next) ∧ ∀ h', (∀ b o, s1.heap.get? b = some o → h'.get? b = some o) → Q none { s1.setGen g .finished with heap := h' })
    (hyld : ∀ v gd l k c p fs s1, Φ (.susp v gd l k c p fs) s1 → s.gens.size ≤ s1.gens.size → (gd || fs.any Frame.guarded) = false ∧ Q (some v) (s1.setGen g (.suspended k l c p fs false))) :
    wpAny (model P w) A (pyNext (.ref a)) Q E s := by
  unfold pyNext
  refine wpAny_bind (wpAny_attempt (wpAny_callSpecial?_slot (name := Str.ofString "__next__") hg.typeIs slot_gen_next (wpAny_call_entry slot_gen_next hg.typeIs entry_gen_next ?_ (args_gen_next _))))
  show wpAny _ A.in1 (Builtin.Generator.genWake (.ref a) (.send .none)) _ _ s
  unfold Builtin.Generator.genWake
  refine wpAny_bind (wpAny_holding (wpAny_genNumber hg (wpAny_bind (wpAny_genState hgs ?_))))
  have main : ∀ (kk : GenResult → Sem Value) (Q2 : Value → Shared → Prop) (E2 : Value → Shared → Prop), (∀ v s1, Q2 v s1 → True) → True := fun _ _ _ _ => trivial
  cases gs with
  | running => exact hr.elim
  | finished => exact hr.elim
  | _ =>
    refine wpAny_bind (wpAny_roomToWake hl hroom ?_)
    show wpAny _ A.in1 (.resume g (.send .none) [] _) _ _ s
    refine we_resume hgs hr fun e s1 he hs => ?_
    cases e with
    | ret r =>
      obtain ⟨h1, h2⟩ := hend r s1 he hs
      refine ⟨rfl, ?_⟩
      have hres : End.result (.ret r) = .returned .none := by rcases h1 with h1 | h1 <;> rw [h1] <;> rfl
      rw [hres]
      show wpAny _ A.in1 (newExc (.type "StopIteration") [] >>= _) _ _ _
      refine wpAny_bind ?_
      simp only [newExc, newTuple]
      refine wpAny_bind (wpAny_newObj_type ?_ (by size_fits))
      refine wpAny_bind (m := firstArgMember _ _) (wpAny_of_eq (a := Value.none) (by first | rfl | (simp only [firstArgMember]; rfl)) ?_)
      refine wpAny_newObj_type ?_ (by size_fits)
      simp only [raiseNew]
      refine wpAny_bind (wpAny_bind (wpAny_handled ?_))
      first | rw [show A.in1.handled = none from hh] | rw [hh]
      refine wpAny_throw ?_
      refine wpAny_bind (wpAny_isInstance (T := "StopIteration") (b := true) ⟨_, Heap.get?_push_size _ rfl, rfl⟩ isSubtype_stop ?_)
      exact wpAny_pure (h2 _ fun b o hb => Heap.get?_push_of_some _ (Heap.get?_push_of_some _ hb))
    | susp v gd l k c p fs =>
      obtain ⟨h1, h2⟩ := hyld v gd l k c p fs s1 he hs
      refine ⟨by show (!(gd || fs.any Frame.guarded)) = true; rw [h1]; rfl, ?_⟩
      have eg : End.genState (.susp v gd l k c p fs) = .suspended k l c p fs false := by show GenState.suspended k l c p fs (gd || fs.any Frame.guarded) = _; rw [h1]
      rw [eg]
      exact wpAny_pure ⟨v, rfl, wpAny_pure h2⟩
end
end L3
namespace L3
open PySem PySem.Spec PyProof.Rows L2 GenW
/-! ### a generator def, by its body -/
/-- a generator that has just been made -/
def GNew (C : SC) (outer : List PySem.Env) (ds : List D) (G H : Hp) (s s' : Shared) (u : Value) : Prop :=
  ∃ (a : Addr) (gi : Nat) (go oL : Obj) (c : Code) (X : Around → Cx), u = .ref a ∧ s.heap.objs.size < a ∧ s'.heap.get? a = some go ∧ (∀ h : Heap, h.get? a = some go → h.IsGen a gi) ∧ s'.gens[gi]? = some (.fresh c) ∧ s'.os = s.os ∧ AllBare s'.gens ∧
    (∀ b o, s.heap.get? b = some o → s'.heap.get? b = some o) ∧ s'.heap.get? s.heap.objs.size = some oL ∧ (∀ v, oL.data ≠ .cell v) ∧
    ∀ A' : Around, Room (C.k + 1) A' → A'.guards = some [] → A'.frames = some outer →
      (X A').prog = C.P ∧ (X A').w = C.w ∧ (X A').K = C.K ∧ (X A').mg = C.mg ∧ (X A').base = C.base ∧ (X A').outer = outer ∧ (X A').ex = [] ∧ (X A').env.cells = [] ∧ (X A').env.locals = s.heap.objs.size ∧ (X A').pn = [(a, go)] ∧
      ∀ gs2, AllBare gs2 → WG ⟨X A', A', ds, G, H⟩ ds.length (0, G, H) (withG s' gs2) c ((model C.P C.w).den c) [] (withG s' gs2)
abbrev SemG := List D → List D → Prop
structure GnF (C : SC) (f : Addr) (fd : FuncData) (ps : List Str) (sem : SemG) : Prop where
  len : ∀ ga ds, sem ga ds → ga.length = ps.length
  run : ∀ (A : Around) (outer : List PySem.Env) (s : Shared) (G H : Hp) (args : Args) (us : List Value) (vs : List V) (ga ds : List D), sem ga ds → Kn G H → RpA C.K G ga vs → Room (C.k + 1) A → Env0 C.P C.w C.K C.mg C.base A outer s H → BindsTo s fd args (ps.zip us) → Vals vs us →
    codeAny (model C.P C.w) A (.call (.ref f) args) (fun r s' => match r with | .ok (.ret u) => GNew C outer ds G H s s' u | _ => False) s
end L3
namespace L3
open PySem PySem.Spec PyProof.Rows L2 GenW
/-! ### for, over a generator -/
structure GDefK (P : Program) (w : World) (K : PySem.W.Frag) (mg : Str → Option Value) (base : Heap) (k : Nat) (x : Str) (sem : SemG) : Prop where
  ex : ∃ (f : Addr) (fd : FuncData) (ps N : List Str) (nm : List (Str × NameKind)) (kg : Nat), kg + 2 ≤ k ∧ mg x = some (.ref f) ∧ PySem.W.keepIn K (.ref f) = true ∧ Binds K fd ps [] ∧ GnF (sc0 P w K mg base N nm kg) f fd ps sem
theorem GDefK.mono {P : Program} {w : World} {K : PySem.W.Frag} {mg : Str → Option Value} {base : Heap} {j k : Nat} {x : Str} {sem : SemG} (F : GDefK P w K mg base j x sem) (h : j ≤ k) : GDefK P w K mg base k x sem := by
  obtain ⟨f, fd, ps, N, nm, kg, h1, r⟩ := F.ex
  exact ⟨f, fd, ps, N, nm, kg, Nat.le_trans h1 h, r⟩
theorem setG_at {s : Shared} {g : Nat} {x : GenState} (h : g < s.gens.size) : (s.setGen g x).gens[g]? = some x := setGen_at h
end L3
namespace L3
open PySem PySem.Spec PyProof.Rows L2 GenW
/-! ### generators' bodies with states; defs without a state lifted -/
def a0u : A0.U := ()
section
variable {C : SC} {ds : List D} {E F : NE} {i : Nat} {P : GPost} {st : Stmt} {sts rest body : List Stmt} {pos yp : Pos} {c e tg iter : Expr} {xs : List Str}
theorem GSt.fg {g ip Gf n t s₀ σ G H s} (z : GSt C g ip Gf E i n t s₀ σ G H s) (h : Fg E F) : GSt C g ip Gf F i n t s₀ σ G H s := ⟨z.num, z.it, z.gw, z.env.fg h, z.inv, z.lt, z.ips, z.flo⟩
theorem g_consC {nx bk ct : NE → Nat → Prop} (h : GStK C ds st E i ⟨fun E' i' => GRunK C ds rest E' i' ⟨nx, bk, ct⟩, bk, ct⟩) : GRunK C ds (st :: rest) E i ⟨nx, bk, ct⟩ := g_cons h
theorem GRunK.imp {P' : GPost} (h : GRunK C ds sts E i P) (h1 : ∀ E i, P.nx E i → P'.nx E i) (h2 : ∀ E i, P.bk E i → P'.bk E i) (h3 : ∀ E i, P.ct E i → P'.ct E i) : GRunK C ds sts E i P' := fun g ip Gf c fs f j gd lv hd hX ha kk n t s₀ σ G H s z =>
  h g ip Gf c fs f j gd lv hd hX ha ⟨fun E' i' n' t' s' σ' G' H' s2 q z' => kk.nx E' i' n' t' s' σ' G' H' s2 (h1 _ _ q) z', fun E' i' n' t' s' σ' G' H' s2 q z' => kk.bk E' i' n' t' s' σ' G' H' s2 (h2 _ _ q) z', fun E' i' n' t' s' σ' G' H' s2 q z' => kk.ct E' i' n' t' s' σ' G' H' s2 (h3 _ _ q) z'⟩ n t s₀ σ G H s z
/-- a statement that hands nothing out, its end told without a number -/
theorem g_pl {nx bk ct : NE → Nat → Prop} (h : StK C A0 st E a0u ⟨fun E' _ => nx E' i, fun _ _ => False, fun E' _ => bk E' i, fun E' _ => ct E' i⟩) : GStK C ds st E i ⟨nx, bk, ct⟩ := g_plain h
/-- something is handed out -/
theorem g_yieldS {yp : Pos} (h : EvK C A0 e E a0u fun d _ => ds[i]? = some d ∧ P.nx E (i + 1)) : GStK C ds (.Expr (.Yield (some e) yp) pos) E i P := g_yield h
end
end L3
namespace L3
open PySem PySem.Spec PyProof.Rows L2
/-! ### s[::-1], a text -/
/-! ### x in a list or tuple of any data -/
end L3
namespace L3
open PySem PySem.Spec PyProof.Rows L2
/-! ### sorted(list of alike data) -/
/-! ### tuple(range(n)) -/
section
variable {C : SC} {A : Amb} {E : NE} {u : A.U} {pos p q1 q2 : Pos} {a : Expr} {Φ : D → A.U → Prop}
theorem k_tupRg1 [hh : Cold C] (hn : Nm C.nm "range" .globalImplicit) (hm : C.mg "range" = none) (hn2 : Nm C.nm "tuple" .globalImplicit) (hm2 : C.mg "tuple" = none)
    (h : EvK C A a E u fun d u1 => ∃ n : Nat, d = .int (n : Int) ∧ n ≤ 16777216 ∧ Φ (.tup (rgs 0 n)) u1)
    (hs : ∀ env, starEach [a] env = (false, eval a env) :: starEach [] env := by intro _; rfl) : EvK C A (.Call (.Name "tuple" p) [.Call (.Name "range" q1) [a] [] q2] [] pos) E u Φ := by
  intro G0 H0 G H σ he Q k X pins s hX I
  obtain ⟨j, nm, rfl, hO, hK⟩ := id hX
  refine (pe_tupRg (hK.calm hh.h) (hn2.gl hO) hm2 (prg_1 (hn.gl hO) hm (pe_of hX a) (hs X.env))).run pins s σ H Q I ?_
  refine h G0 H0 G H σ he _ fun d u1 v G1 H1 ⟨n, e1, hl, p1⟩ g1 st1 r1 => ?_
  subst e1
  simp only [Rp] at r1
  refine ⟨n, r1, RgOk.of_le (by omega) (by omega) (by omega) (by omega), fun z hz => ?_⟩
  have e : ((n : Int) - 0).toNat = n := by omega
  have r := rpa_rg (K := (stat X j nm).K) (G := G1) 0 (n : Int)
  rw [e] at r
  have g2 : Grow noFoot noFoot G1 H1 (upd G1 z (.tup (rgV 0 (n : Int)))) (upd H1 z (.tup (rgV 0 (n : Int)))) := Grow.new g1.gh hz
  exact k _ u1 _ _ _ p1 (g1.trans g2.weak) (A.grow st1 g2) (by simp only [Rp]; exact ⟨z, _, rfl, .inl (.inl upd_same), r.mono g2.gg⟩)
end
end L3
namespace L3
open PySem PySem.Spec PyProof.Rows L2
/-! ### x += e of an int; statements never reached -/
section
variable {C : SC} {A : Amb} {E : NE} {u : A.U} {P : Post A} {st : Stmt} {sts : List Stmt} {pos p : Pos} {e : Expr}
theorem s_augN {x : Str} {kd : NameKind} {F : Sl → NE} {i : Int} (hp : Spl E x F) (hm : At E x (.dat (.int i))) (hn : Nm C.nm x kd) (hk : LocK kd) (h : EvK C A e E u fun d u' => ∃ j, d = .int j ∧ P.nx (F (.dat (.int (i + j)))) u') :
    StK C A (.AugAssign (.Name x p) .Add e pos) E u P := by
  intro G0 H0 G H σ Ds he S X pins s hX I
  obtain ⟨k, nm, rfl, hO, hK⟩ := id hX
  obtain ⟨n, v, h1, h2, h3⟩ := he.dat hm.mem
  simp only [Rp] at h3
  subst h3
  refine (ps_aug (i := n) (pos' := p) hK.nd h1 (hn.loc hO hk) (pe_of hX e) ip_add (hn.fn hO hk)).run pins s σ H Ds I ⟨_, h2, ?_⟩
  refine h G0 H0 G H σ he _ fun d u' v G' H' ⟨j, e1, q⟩ g st r => ?_
  subst e1
  simp only [Rp] at r
  subst r
  exact ⟨i, j, rfl, rfl, S.nx _ u' G' H' _ q ((he.go g st).put (d := .int (i + j)) hp h1 I.len hK.nd (by simp only [Rp]))⟩
end
end L3
namespace L3
open PySem PySem.Spec PyProof.Rows L2
end L3
namespace L3
open PySem PySem.Spec PyProof.Rows L2 GenW
/-! ### list(g): the list's making, and its filling -/
section
variable {P : Program} {w : World} {A : Around}
theorem listG_init {S a : Addr} {g : Nat} {s : Shared} {R : Result → Shared → Prop} (hne : a ≠ S) (hg : s.heap.IsGen a g) (hS : s.heap.get? S = some { cls := .type "list", data := .seq #[] })
    (h : ∀ h' c, (∀ b o, b ≠ S → s.heap.get? b = some o → h'.get? b = some o) → h'.get? S = some (lstObj #[] c) → codeAny (model P w) A (.builtin "list.extend.loop" ⟨[.ref S, .ref a, .none], []⟩) R { s with heap := h' }) :
    wpAny (model P w) A.in1 (Builtin.«list.__init__» ⟨[.ref S, .ref a], []⟩) (fun fin s' => match fin with | .done f => R (.ok f) s' | .again c' => c'.quiet = true ∧ codeAny (model P w) A c' R s') (fun e s' => R (.error e) s') s := by
  have step : ∀ (h1 : Heap) (f : Array Value → Array Value), (∀ b o, b ≠ S → s.heap.get? b = some o → h1.get? b = some o) → ∀ b o, b ≠ S → s.heap.get? b = some o → (h1.update S (Obj.mapSeq f)).get? b = some o := fun h1 f q b o hb e =>
    (Heap.get?_update_other _ _ (Ne.symm hb)).trans (q b o hb e)
  have u1 := Heap.get?_update_self (Obj.mapSeq (fun _ => (#[] : Array Value))) hS rfl
  have g1 : (s.heap.update S (Obj.mapSeq (fun _ => (#[] : Array Value)))).IsGen a g := by
    obtain ⟨o, nm, qn, e, r⟩ := hg
    exact ⟨o, nm, qn, step _ _ (fun _ _ _ e => e) a o hne e, r⟩
  have ty : Shared.TypeIs { s with heap := s.heap.update S (Obj.mapSeq (fun _ => (#[] : Array Value))) } (.ref a) "generator" := Heap.IsGen.typeIs (s := { s with heap := _ }) g1
  have q1 : Builtin.List.listSameRef (.ref S) (.ref a) = false := by simp [Builtin.List.listSameRef, Ne.symm hne]
  have u2 := Heap.get?_update_self (Obj.mapSeq (·.push Value.none)) u1 rfl
  have u3 := Heap.get?_update_self (Obj.mapSeq (·.pop)) u2 rfl
  have n1 := F.gen_no_len
  have n2 := F.gen_no_hint
  unfold Builtin.«list.__init__»
  have z0 : (0 : Nat) ≤ sizeLine := Nat.zero_le _
  have z3 : (0 : Nat) ≤ sizeLine + 1 := Nat.zero_le _
  wp_walk using wpAny_seqItems hS rfl, wpAny_updateSeq hS rfl (hz := z0) (_hz' := z3), wpAny_pyIter_gen g1
  exact ⟨plainId_quiet F.plain_extend_loop _, h _ _ (step _ _ (step _ _ (step _ _ fun _ _ _ e => e))) u3⟩
/-- the list is made -/
theorem listG_call {a : Addr} {g : Nat} {s : Shared} {Q' : Value → Shared → Prop} {E : Value → Shared → Prop} (hg : s.heap.IsGen a g)
    (h : ∀ h' c, (∀ b o, s.heap.get? b = some o → h'.get? b = some o) → h'.get? s.heap.objs.size = some (lstObj #[] c) → codeAny (model P w) A.in1 (.builtin "list.extend.loop" ⟨[.ref s.heap.objs.size, .ref a, .none], []⟩) (wants (fun r s₂ => r = .none ∧ Q' (.ref s.heap.objs.size) s₂) E) { s with heap := h' }) :
    wpAny (model P w) A (call (.type "list") [.ref a]) Q' E s := by
  have lt : a < s.heap.objs.size := let ⟨_, _, _, e, _⟩ := hg; Heap.lt_size e
  let e0 : Obj := { cls := .type "list", data := .seq #[] }
  have made : codeAny (model P w) A.in1 (.call (.builtin "list.__new__") ⟨[.type "list", .ref a], []⟩) (wants (fun obj s1 => obj = .ref s.heap.objs.size ∧ s1 = { s with heap := s.heap.push e0 }) E) s := code_list_new _ ⟨rfl, rfl⟩
  refine callType_codes F.called_list (F.typeCall_list_1 _) F.entry_list_init made ?_
  rintro _ _ ⟨rfl, rfl⟩
  have old : ∀ b o, s.heap.get? b = some o → (s.heap.push e0).get? b = some o := fun b o e => Heap.get?_push_of_some _ e
  have new : (s.heap.push e0).get? s.heap.objs.size = some e0 := Heap.get?_push_size _ rfl
  refine ⟨⟨_, new, rfl⟩, F.args_list_init_2 _ _, listG_init (s := { s with heap := s.heap.push e0 }) (Nat.ne_of_lt lt) (hg.keeps old) new fun h' c kp hc => ?_⟩
  exact h h' c (fun b o e => kp b o (Nat.ne_of_lt (Heap.lt_size e)) (old b o e)) hc
/-- its filling; Iv: what holds ahead of a turn -/
theorem listG_fill {S a : Addr} {R : Result → Shared → Prop} (Iv : Nat → Shared → Prop)
    (turn : ∀ n s, Iv n s → wpAny (model P w) A.in1 (pyNext (.ref a)) (fun o s1 => match o with
      | none => R (.ok (.ret .none)) s1
      | some v => ∃ acc c, s1.heap.get? S = some (lstObj acc c) ∧ acc.size < sizeLine ∧ ∃ m, m < n ∧ Iv m { s1 with heap := s1.heap.update S (Obj.mapSeq (·.push v)) }) NoX s) :
    ∀ n s, Iv n s → codeAny (model P w) A (.builtin "list.extend.loop" ⟨[.ref S, .ref a, .none], []⟩) R s := fun n => by
  induction n using Nat.strongRecOn with
  | ind n ih =>
  intro s h
  have q := turn n s h
  refine codeAny_builtin F.entry_extend_loop ?_
  rw [Around.under_plainId F.plain_extend_loop _]
  unfold Builtin.«list.extend.loop»
  refine wpAny_bind (wpAny_mono q (fun o s1 z => ?_) fun _ _ z => z.elim)
  match o, z with
  | none, z => exact wpAny_pure z
  | some v, ⟨acc, c, hS, hl, m, hm, hI⟩ =>
    have sz : (acc.push v).size ≤ sizeLine + 1 := by rw [Array.size_push]; omega
    exact wpAny_bind (wpAny_updateSeq hS rfl (wpAny_pure ⟨plainId_quiet F.plain_extend_loop _, ih m hm _ hI⟩) (Nat.le_of_lt hl) sz)
end
/-! ### if, in a generator -/
/-! ### a generator whose items go into one list: by data -/
abbrev GhL := Nat × Hp × Hp × Obj
def lEnd (g : GRn) (S : Addr) : Nat → GhL → Shared → Result → Shared → Prop := fun n t s₀ r s =>
  (r = .ok (.ret .none) ∨ r = .ok .next) ∧ t.1 = g.ds.length ∧ ∃ σ G H, Kn t.2.1 G ∧ Grow noFoot noFoot g.Gs g.Hs G H ∧ L2.Inv (reX g.X s₀ t.2.2.1) [(S, t.2.2.2)] σ H s
def lItem (g : GRn) (S : Addr) : Nat → GhL → Shared → Value → Shared → (GhL → Shared → Prop) → Prop := fun n t s₀ v s kap =>
  ∃ d x σ G H, g.ds[t.1]? = some d ∧ RelV x v ∧ Rp g.X.K G d x ∧ Kn t.2.1 G ∧ Grow noFoot noFoot g.Gs g.Hs G H ∧ L2.Inv (reX g.X s₀ t.2.2.1) [(S, t.2.2.2)] σ H s ∧
    ∀ G' H' s' o', Grow noFoot noFoot G H G' H' → L2.Inv (reX g.X s' H') [(S, o')] σ H' s' → g.L < s'.heap.objs.size → kap (t.1 + 1, G', H', o') s'
def PhiS (g : GRn) (S : Addr) : Nat → GhL → Shared → End → Shared → Prop := PhiG g.M g.A (lEnd g S) (lItem g S)
abbrev WL (g : GRn) (S : Addr) (n : Nat) (t : GhL) (s₀ : Shared) (c : Code) (tr : Sem PySem.Fin) (fs : List Frame) (s : Shared) : Prop := WE g.M g.A (PhiS g S n t s₀) c tr fs s
structure LSt (C : SC) (g : GRn) (S : Addr) (E : NE) (i n : Nat) (t : GhL) (s₀ : Shared) (σ : L2.St) (G H : Hp) (s : Shared) : Prop where
  num : n + i = g.ds.length
  it : t.1 = i
  gw : Grow noFoot noFoot g.Gs g.Hs t.2.1 t.2.2.1
  env : Env C A0 ⟨t.2.1, noFoot⟩ g.Hs () G H E σ
  inv : L2.Inv (reX g.X s₀ t.2.2.1) [(S, t.2.2.2)] σ H s
  lt : g.L < s₀.heap.objs.size
structure LCont (C : SC) (g : GRn) (S : Addr) (c : Code) (fs : List Frame) (f : Flow → Sem PySem.Fin) (P : GPost) : Prop where
  nx : ∀ E i n t s₀ σ G H s, P.nx E i → LSt C g S E i n t s₀ σ G H s → WL g S n t s₀ c (f .next) fs s
  bk : ∀ E i n t s₀ σ G H s, P.bk E i → LSt C g S E i n t s₀ σ G H s → WL g S n t s₀ c (f .brk) fs s
  ct : ∀ E i n t s₀ σ G H s, P.ct E i → LSt C g S E i n t s₀ σ G H s → WL g S n t s₀ c (f .cont) fs s
def LStK (C : SC) (ds : List D) (st : Stmt) (E : NE) (i : Nat) (P : GPost) : Prop :=
  ∀ (g : GRn) S c fs f j gd lv, g.ds = ds → HasN C g.X → GAt g c fs gd → LCont C g S c fs f P → ∀ n t s₀ σ G H s, LSt C g S E i n t s₀ σ G H s → WL g S n t s₀ c ((exec st g.X.env).wrap f j gd lv) fs s
def LRunK (C : SC) (ds : List D) (sts : List Stmt) (E : NE) (i : Nat) (P : GPost) : Prop :=
  ∀ (g : GRn) S c fs f j gd lv, g.ds = ds → HasN C g.X → GAt g c fs gd → LCont C g S c fs f P → ∀ n t s₀ σ G H s, LSt C g S E i n t s₀ σ G H s → WL g S n t s₀ c ((execs sts g.X.env).wrap f j gd lv) fs s
section
variable {C : SC} {ds : List D} {E : NE} {i : Nat} {P : GPost} {st : Stmt} {sts rest body orelse : List Stmt} {pos yp : Pos} {c e : Expr}
theorem l_nil (q : P.nx E i) : LRunK C ds [] E i P := fun g S c fs f j gd lv _ _ _ k n t s₀ σ G H s z => we_nil (k.nx E i n t s₀ σ G H s q z)
theorem l_cons (h : LStK C ds st E i { P with nx := fun E' i' => LRunK C ds rest E' i' P }) : LRunK C ds (st :: rest) E i P := by
  intro g S c fs f j gd lv hd hX ha k n t s₀ σ G H s z
  refine we_cons (h g S c fs _ j gd lv hd hX ha ⟨fun E' i' n' t' s' σ' G' H' s2 q z' => ?_, fun E' i' n' t' s' σ' G' H' s2 q z' => ?_, fun E' i' n' t' s' σ' G' H' s2 q z' => ?_⟩ n t s₀ σ G H s z)
  · exact q g S c fs f j gd lv hd hX ha k n' t' s' σ' G' H' s2 z'
  · exact k.bk E' i' n' t' s' σ' G' H' s2 q z'
  · exact k.ct E' i' n' t' s' σ' G' H' s2 q z'
theorem LSt.go {g : GRn} {S : Addr} {n : Nat} {t : GhL} {s₀ s s' : Shared} {σ σ' : L2.St} {G H G' H' : Hp} {E' : NE} (z : LSt C g S E i n t s₀ σ G H s) (he : Env C A0 ⟨G, noFoot⟩ g.Hs () G' H' E' σ') (I : L2.Inv (reX g.X s₀ t.2.2.1) [(S, t.2.2.2)] σ' H' s') : LSt C g S E' i n t s₀ σ' G' H' s' :=
  ⟨z.num, z.it, z.gw, he.down z.env.gr z.env.ln, I, z.lt⟩
/-- a statement that hands nothing out -/
theorem l_plain (h : StK C A0 st E () ⟨fun E' _ => P.nx E' i, fun _ _ => False, fun E' _ => P.bk E' i, fun E' _ => P.ct E' i⟩) : LStK C ds st E i P := by
  intro g S c fs f j gd lv hd hX ha k n t s₀ σ G H s z
  refine we_wrap ?_
  rw [ha.over]
  let W (N : NE → Nat → Prop) : L2.St → Hp → Prop := fun σ' H' => ∃ E' G', N E' i ∧ Env C A0 ⟨G, noFoot⟩ g.Hs () G' H' E' σ'
  have q := h ⟨G, noFoot⟩ g.Hs G H σ ⟨W P.nx, fun _ _ => False, W P.bk, W P.ct⟩ (z.env.up z.env.gr (Kn.refl _)) ⟨fun E' _ G' H' σ' p he => ⟨E', G', p, he⟩, fun E' _ G' H' σ' p he => ⟨E', G', p, he⟩, fun E' _ G' H' σ' p he => ⟨E', G', p, he⟩, fun _ _ _ _ _ p _ _ _ => p⟩ (reX g.X s₀ t.2.2.1) [(S, t.2.2.2)] s (has_re hX _ _) z.inv
  refine wpAny_mono q (fun fl s' r => ?_) fun e s' r => hX.nox e s' r
  cases fl with
  | next => obtain ⟨σ', H', I', E', G', p, he⟩ := r; exact k.nx E' i n t s₀ σ' G' H' s' p (z.go he I')
  | brk => obtain ⟨σ', H', I', E', G', p, he⟩ := r; exact k.bk E' i n t s₀ σ' G' H' s' p (z.go he I')
  | cont => obtain ⟨σ', H', I', E', G', p, he⟩ := r; exact k.ct E' i n t s₀ σ' G' H' s' p (z.go he I')
  | ret u => obtain ⟨v, σ', H', I', _, p⟩ := r; exact p.elim
/-- something is handed out -/
theorem l_yield (h : EvK C A0 e E () fun d _ => ds[i]? = some d ∧ P.nx E (i + 1)) : LStK C ds (.Expr (.Yield (some e) yp) pos) E i P := by
  intro g S c fs f j gd lv hd hX ha k n t s₀ σ G H s z
  refine we_Yield ha.split ha.gd ?_ ha.co ha.act
  rw [ha.over]
  have q := h ⟨t.2.1, noFoot⟩ g.Hs G H σ z.env (fun v H' => ∃ d G', (ds[i]? = some d ∧ P.nx E (i + 1)) ∧ Grow noFoot noFoot G H G' H' ∧ Rp C.K G' d v) (fun d _ v G' H' p gr _ r => ⟨d, G', p, gr, r⟩) (reX g.X s₀ t.2.2.1) [(S, t.2.2.2)] s (has_re hX _ _) z.inv
  refine wpAny_mono q (fun u s' r => ?_) fun e s' r => hX.nox e s' r
  obtain ⟨v, H', I', rv, d, G', ⟨hi, p⟩, gr, rd⟩ := r
  intro l kk q hkk
  have hlt : i < ds.length := (List.getElem?_eq_some_iff.mp hi).1
  have hn := z.num
  rw [hd] at hn
  obtain ⟨m, rfl⟩ : ∃ m, n = m + 1 := ⟨n - 1, by omega⟩
  have he := z.env.go (u' := ()) gr trivial
  have hit := z.it
  refine ⟨by rw [Bool.false_or]; exact ha.guard, d, v, σ, G', H', by rw [hd, hit]; exact hi, rv, by rw [← hX.k]; exact rd, he.gr.gg, z.gw.down he.gr, I', fun G'' H'' s'' o' gr2 I'' lt'' => ?_⟩
  rw [hkk]
  have he2 := he.go (u' := ()) gr2 trivial
  exact k.nx E (i + 1) m (t.1 + 1, G'', H'', o') s'' σ G'' H'' s'' p ⟨by rw [hd]; omega, by rw [hit], z.gw.down he2.gr, he2.up he2.gr (Kn.refl _), I'', lt''⟩
end
end L3
namespace L3
open PySem PySem.Spec PyProof.Rows L2 GenW
/-! ### an object of nobody's, beside a context -/
/-- younger than a context's call, none of its own -/
structure Beside (X : Cx) (pins : List (Addr × Obj)) (S : Addr) : Prop where
  young : X.s_0.heap.objs.size ≤ S
  loc : S ≠ X.env.locals
  cell : ∀ x c, X.env.cells.lookup x = some c → c ≠ S
  pin : ∀ p ∈ X.pn ++ pins, p.1 ≠ S
section
variable {X : Cx} {pins : List (Addr × Obj)} {σ : L2.St} {H : Hp} {s : Shared} {S : Addr}
theorem Beside.ch (B : Beside X pins S) : ∀ b ∈ [S], (b ∈ X.ex ∨ X.s_0.heap.objs.size ≤ b) ∧ b ≠ X.env.locals ∧ (∀ x c, X.env.cells.lookup x = some c → c ≠ b) ∧ ∀ p ∈ X.pn ++ pins, p.1 ≠ b := fun b hb => by
  rw [List.mem_singleton.mp hb]
  exact ⟨.inr B.young, B.loc, B.cell, B.pin⟩
theorem Beside.more (B : Beside X pins S) {pl : List (Addr × Obj)} (h : ∀ p ∈ pl, p.1 ≠ S) : Beside X (pins ++ pl) S := ⟨B.young, B.loc, B.cell, fun p hp => by
  rw [← List.append_assoc] at hp
  rcases List.mem_append.mp hp with hp | hp
  · exact B.pin p hp
  · exact h p hp⟩
/-- it changes -/
theorem inv_touch (I : L2.Inv X pins σ H s) (B : Beside X pins S) (n : H S = none) {o : Obj} (e : s.heap.get? S = some o) (f : Obj → Obj) : L2.Inv X pins σ H { s with heap := s.heap.update S f } := by
  have ne : ∀ b ob, b ∉ [S] → s.heap.get? b = some ob → (s.heap.update S f).get? b = some ob := fun b ob hb q => (Heap.get?_update_other _ _ fun z => hb (by rw [z]; exact List.mem_singleton.mpr rfl)).trans q
  refine I.call' (ch := [S]) rfl ⟨fun b ob q _ _ hx => ne b ob hx q, fun b ob q _ _ hx => ⟨ob.slots, ne b ob hx q⟩, fun b ob _ m _ => m, fun b ob q hx => ⟨ob, ne b ob hx q⟩, fun _ _ q => q, fun _ _ _ q => q, fun b ps q => ⟨#[], by rw [q]; simp⟩⟩ (fun b u q => ?_) I.bare B.ch
  refine (I.hok b u q).stay (fun b' u' hb q' => ne b' u' (fun z => ?_) q') (fun _ z => z) fun _ _ z => z
  have z := List.mem_singleton.mp z
  rcases hb with rfl | hb
  · rw [z, n] at q; cases q
  · rw [z, n] at hb; cases hb
/-- a list of nobody's becomes a list that is known -/
theorem inv_track (I : L2.Inv X pins σ H s) (B : Beside X pins S) (n : H S = none) {acc : Array Value} {c : Nat} {ys : List V} (e : s.heap.get? S = some (lstObj acc c)) (r : Vals ys acc.toList) (hl : ys.length ≤ sizeLine) : L2.Inv X pins σ (upd H S (.lst ys)) s := by
  have ne : ∀ b ob, b ∉ [S] → H b = ob → upd H S (.lst ys) b = ob := fun b ob hb q => by rw [upd_ne fun z => hb (by rw [z]; exact List.mem_singleton.mpr rfl)]; exact q
  have ns : ∀ b u, H b = some u → b ∉ [S] := fun b u q z => by rw [List.mem_singleton.mp z, n] at q; cases q
  refine I.call' (ch := [S]) rfl ⟨fun b ob q _ _ _ => q, fun b ob q _ _ _ => ⟨ob.slots, q⟩, fun b ob _ m hx => ne b none hx m, fun b ob q _ => ⟨ob, q⟩, fun b xs q => ne b _ (ns b _ q) q, fun b o u q => ne b _ (ns b _ q) q, fun b ps q => ⟨#[], by rw [ne b _ (ns b _ q) q]; simp⟩⟩ (fun b u q => ?_) I.bare B.ch
  by_cases hb : b = S
  · subst hb
    rw [upd_same] at q
    cases q
    exact ⟨hl, acc.toList, c, r, e⟩
  · rw [upd_ne hb] at q
    exact (I.hok b u q).stay (fun _ _ _ z => z) (fun d z => ne d _ (ns d _ z) z) fun d xs z => ne d _ (ns d _ z) z
end
/-! ### the making of such a generator -/
def GNewL (C : SC) (outer : List PySem.Env) (ds : List D) (G H : Hp) (s s' : Shared) (u : Value) : Prop :=
  ∃ (a : Addr) (gi : Nat) (go oL : Obj) (c : Code) (σg : L2.St) (X : Around → Cx), u = .ref a ∧ s.heap.objs.size < a ∧ s'.heap.get? a = some go ∧ (∀ h : Heap, h.get? a = some go → h.IsGen a gi) ∧ s'.gens[gi]? = some (.fresh c) ∧ s'.os = s.os ∧ AllBare s'.gens ∧
    (∀ b o, s.heap.get? b = some o → s'.heap.get? b = some o) ∧ s'.heap.get? s.heap.objs.size = some oL ∧ (∀ v, oL.data ≠ .cell v) ∧
    ∀ A' : Around, Room (C.k + 1) A' → A'.guards = some [] → A'.frames = some outer →
      (X A').prog = C.P ∧ (X A').w = C.w ∧ (X A').K = C.K ∧ (X A').mg = C.mg ∧ (X A').base = C.base ∧ (X A').outer = outer ∧ (X A').ex = [] ∧ (X A').env.cells = [] ∧ (X A').env.locals = s.heap.objs.size ∧ (X A').pn = [(a, go)] ∧
      L2.Inv (reX (X A') s' H) [] σg H s' ∧
      ∀ S o s2, L2.Inv (reX (X A') s2 H) [(S, o)] σg H s2 → s.heap.objs.size < s2.heap.objs.size → WL ⟨X A', A', ds, G, H⟩ S ds.length (0, G, H, o) s2 c ((model C.P C.w).den c) [] s2
structure GnL (C : SC) (f : Addr) (fd : FuncData) (ps : List Str) (sem : SemG) : Prop where
  len : ∀ ga ds, sem ga ds → ga.length = ps.length
  run : ∀ (A : Around) (outer : List PySem.Env) (s : Shared) (G H : Hp) (args : Args) (us : List Value) (vs : List V) (ga ds : List D), sem ga ds → Kn G H → RpA C.K G ga vs → Room (C.k + 1) A → Env0 C.P C.w C.K C.mg C.base A outer s H → BindsTo s fd args (ps.zip us) → Vals vs us →
    codeAny (model C.P C.w) A (.call (.ref f) args) (fun r s' => match r with | .ok (.ret u) => GNewL C outer ds G H s s' u | _ => False) s
/-- a generator def at hand, whose items go into one list -/
structure GDefL (P : Program) (w : World) (K : PySem.W.Frag) (mg : Str → Option Value) (base : Heap) (k : Nat) (x : Str) (sem : SemG) : Prop where
  ex : ∃ (f : Addr) (fd : FuncData) (ps N : List Str) (nm : List (Str × NameKind)) (kg : Nat), kg + 4 ≤ k ∧ mg x = some (.ref f) ∧ PySem.W.keepIn K (.ref f) = true ∧ Binds K fd ps [] ∧ GnL (sc0 P w K mg base N nm kg) f fd ps sem
theorem GDefL.mono {P : Program} {w : World} {K : PySem.W.Frag} {mg : Str → Option Value} {base : Heap} {j k : Nat} {x : Str} {sem : SemG} (F : GDefL P w K mg base j x sem) (h : j ≤ k) : GDefL P w K mg base k x sem := by
  obtain ⟨f, fd, ps, N, nm, kg, h1, r⟩ := F.ex
  exact ⟨f, fd, ps, N, nm, kg, Nat.le_trans h1 h, r⟩
end L3
namespace L3
open PySem PySem.Spec PyProof.Rows L2 GenW
/-! ### list(g(..)) -/
theorem boot_list : bootBuiltins "list" = some (.type "list") := by decide +kernel
section
variable {pos p q p2 : Pos} {a : Expr} {as : List Expr}
theorem n_listG {C : SC} [hh : Cold C] {A : Amb} {E : NE} {u : A.U} {Φ : List D → A.U → Prop} {x : Str} {sem : SemG} (F : GDefL C.P C.w C.K C.mg C.base C.k x sem) (hn : Nm C.nm x .globalImplicit) (hnl : Nm C.nm "list" .globalImplicit) (ml : C.mg "list" = none)
    (h : EvA C A (a :: as) E u fun ga u' => ∃ ds, sem ga ds ∧ ds.length ≤ sizeLine ∧ Φ ds u')
    (hd : (x == ("__debug__" : Str)) = false := by decide +kernel) (he0 : ∀ env, starEach (a :: as) env = (false, eval a env) :: starEach as env := by intro _; rfl) (hpl : ∀ env, (backTo q (starEach as env)).any (·.1) = false := by intro _; rfl)
    (he1 : ∀ env, starEach [.Call (.Name x p) (a :: as) [] q] env = (false, eval (.Call (.Name x p) (a :: as) [] q) env) :: starEach [] env := by intro _; rfl) :
    EvN C A (.Call (.Name "list" p2) [.Call (.Name x p) (a :: as) [] q] [] pos) E u Φ := by
  intro G0 H0 G H σ he Q kq X pins s hX I
  obtain ⟨j, nm', rfl, hO, hK⟩ := id hX
  obtain ⟨f, fd, ps, N, nm, kg, hk2, hm, hkeep, hb, Fn⟩ := F.ex
  refine wpAny_Call_Name_kw (ld_blt I (hnl.gl hO) ml boot_list ?_)
  refine PyProof.Rows.callWith_type1 ?_ (he1 X.env) rfl
  rw [he1 X.env]
  show wpAny _ _ (spliced ((false, eval (.Call (.Name x p) (a :: as) [] q) X.env) :: backTo pos (starEach [] X.env))) _ _ s
  refine Calls.spliced_cons (wpAny_mono (Q := fun u1 s1 => ∃ (sA : Shared) (ds : List D) (u2 : A.U) (G1 H1 : Hp), ds.length ≤ sizeLine ∧ Φ ds u2 ∧ Grow (A.foot u) (A.foot u2) G H G1 H1 ∧ A.st u2 G1 H1 ∧ L2.Inv X pins σ H1 sA ∧ GNewL (sc0 X.prog X.w X.K X.mg X.base N nm kg) X.stack ds G1 H1 sA s1 u1) ?_ (fun u1 s1 hz => ?_) fun _ _ z => z)
  · refine wpAny_Call_Name_kw (ld_glob I (hn.gl hO) hm ?_ hd)
    refine PySem.W.callWith_K (h₀ := X.base) I.ok.mod.kin hkeep (thn ((pa_of hX (a :: as)).run q pins s σ H (fun vs H1 => ∃ ga G1 u2, (∃ ds, sem ga ds ∧ ds.length ≤ sizeLine ∧ Φ ds u2) ∧ Grow (A.foot u) (A.foot u2) G H G1 H1 ∧ A.st u2 G1 H1 ∧ RpA X.K G1 ga vs) I ?_) fun us s1 ⟨vs, H1, I1, r, ga, G1, u2, ⟨ds, hsem, hlen, hΦ⟩, gr1, st1, ra⟩ => ⟨I1.kIn, ?_⟩) (he0 X.env) (hpl X.env)
    · exact h G0 H0 G H σ he _ fun ga u2 vs G1 H1 hh g st r => ⟨ga, G1, u2, hh, g, st, r⟩
    have hl : us.length = ps.length := by rw [← r.length, ra.len]; exact Fn.len ga ds hsem
    have hb' := hb s1 us I1.kIn (by rw [List.append_nil]; exact hl)
    rw [List.append_nil] at hb'
    refine wpAny_call (codeAny_mono (Fn.run X.A X.stack s1 G1 H1 ⟨us, []⟩ us vs ga ds hsem gr1.gh ra ((hK.room hh.h).mono (by have : kg + 4 ≤ j := hk2; show kg + 1 ≤ j; omega)) I1.env0 hb' r) fun rr s' hq => ?_)
    cases rr with
    | error e => exact hq.elim
    | ok fl =>
      cases fl with
      | next => exact hq.elim
      | brk => exact hq.elim
      | cont => exact hq.elim
      | ret u => exact ⟨s1, ds, u2, G1, H1, hlen, hΦ, gr1, st1, I1, hq⟩
  obtain ⟨sA, ds, u2, G1, H1, hlen, hΦ, gr1, st1, I1, ad, gi, go, oL, c, σg, mk, rfl, hLa, hgo, hisg, hgens, hos, hbare, hkp, hgL, hdL, hmk⟩ := hz
  refine Calls.spliced_nil ?_
  have hroom : Room (kg + 1) X.A.in1.in1.in1 := ((((hK.room hh.h).mono (show kg + 1 + 1 + 1 + 1 ≤ j from hk2)).in1).in1).in1
  obtain ⟨m1, m2, m3, m4, m5, m6, m7, m8, m9, m10, J0, hrun⟩ := hmk X.A.in1.in1.in1 hroom hK.gd I1.ok.frames
  have gof : GenOf (mk X.A.in1.in1.in1) X := ⟨m1, m2, m3, m4, m5, m6, m7, m8⟩
  have Is : L2.Inv X pins σ H1 s1 := I1.call' (ch := []) hos (Un.kept hkp) (I1.hok.kept hkp) hbare fun b hb => (List.not_mem_nil hb).elim
  have hSad : ad < s1.heap.objs.size := Heap.lt_size hgo
  have hSn : H1 s1.heap.objs.size = none := Is.hok.fresh (Nat.le_refl _)
  have bes : Beside X pins s1.heap.objs.size := ⟨Is.sz, Nat.ne_of_gt Is.lt, fun x c e => let ⟨_, _, q, _⟩ := Is.cell x c e; Nat.ne_of_lt (Heap.lt_size q), fun p hp => Nat.ne_of_lt (Heap.lt_size (Is.pin p hp).1)⟩
  have hLn : X.env.locals < sA.heap.objs.size := I1.lt
  have hcl : ∀ x c, X.env.cells.lookup x = some c → c < (mk X.A.in1.in1.in1).env.locals := fun x c e => by
    rw [m9]; obtain ⟨v, q⟩ := I1.cell x c e; exact q.lt
  have hpl2 : ∀ p ∈ X.pn ++ pins, p.1 < (mk X.A.in1.in1.in1).env.locals := fun p hp => by rw [m9]; exact Heap.lt_size (I1.pin p hp).1
  have hlo : X.env.locals < (mk X.A.in1.in1.in1).env.locals := by rw [m9]; exact hLn
  have hnf : ∀ b, sA.heap.objs.size ≤ b → b ∉ X.fs ∧ b ≠ X.env.locals := fun b hb => ⟨I1.nofs hb, Nat.ne_of_gt (Nat.lt_of_lt_of_le hLn hb)⟩
  have hgd : ∀ v, go.data ≠ .cell v := fun v e => by
    obtain ⟨o, nm1, qn1, e1, _, e3, _⟩ := hisg _ hgo
    rw [hgo] at e1; cases e1
    rw [e3] at e; cases e
  -- the pins of the generator's frame and of itself
  have pinG : ∀ {s2 : Shared} {H2 : Hp} {oz : Obj}, L2.Inv X pins σ H2 s2 → s2.heap.get? (mk X.A.in1.in1.in1).env.locals = some oz → H2 (mk X.A.in1.in1.in1).env.locals = none → (∀ v, oz.data ≠ .cell v) → s2.heap.get? ad = some go → H2 ad = none → L2.Inv X (pins ++ [((mk X.A.in1.in1.in1).env.locals, oz), (ad, go)]) σ H2 s2 := fun {s2 H2 oz} I2 e1 e2 e3 e4 e5 => by
    refine I2.pins_of fun p hp => ?_
    rcases List.mem_append.mp hp with hp | hp
    · exact I2.pin p (List.mem_append_right _ hp)
    · rcases List.mem_cons.mp hp with e | hp
      · rw [e]
        refine ⟨e1, e2, ?_, ?_, e3⟩
        · show (mk X.A.in1.in1.in1).env.locals ≠ _; rw [m9]; exact (hnf _ (Nat.le_refl _)).2
        · show (mk X.A.in1.in1.in1).env.locals ∉ _; rw [m9]; exact (hnf _ (Nat.le_refl _)).1
      · rw [List.mem_singleton.mp hp]
        have h2 := hnf ad (Nat.le_of_lt hLa)
        exact ⟨e4, e5, h2.2, h2.1, hgd⟩
  have apG : ∀ {oz : Obj}, ∀ p ∈ [((mk X.A.in1.in1.in1).env.locals, oz), (ad, go)], p.1 ≠ s1.heap.objs.size := fun {oz} p hp => by
    rcases List.mem_cons.mp hp with e | hp
    · rw [e]; show (mk X.A.in1.in1.in1).env.locals ≠ _; rw [m9]; exact Nat.ne_of_lt (Nat.lt_trans hLa hSad)
    · rw [List.mem_singleton.mp hp]; exact Nat.ne_of_lt hSad
  have inS : ∀ {s0 s2 s3 : Shared} {Hw H2 H3 : Hp} {ip : List (Addr × Obj)} {σ2 σ3 : L2.St} {o : Obj}, L2.Inv (reX (mk X.A.in1.in1.in1) s0 Hw) ip σ2 H2 s2 → s1.heap.objs.size ≠ (mk X.A.in1.in1.in1).env.locals ∧ s1.heap.objs.size ∉ (reX (mk X.A.in1.in1.in1) s0 Hw).fs → L2.Inv (reX (mk X.A.in1.in1.in1) s3 H3) [] σ3 H3 s3 → s3.heap.get? s1.heap.objs.size = some o → H3 s1.heap.objs.size = none → (∀ v, o.data ≠ .cell v) → L2.Inv (reX (mk X.A.in1.in1.in1) s3 H3) [(s1.heap.objs.size, o)] σ3 H3 s3 :=
    fun {s0 s2 s3 Hw H2 H3 ip σ2 σ3 o} J ns W e n nc => W.pins_of fun p hp => by
      rw [List.mem_singleton.mp hp]
      exact ⟨e, n, ns.1, ns.2, nc⟩
  have ns0 : s1.heap.objs.size ≠ (mk X.A.in1.in1.in1).env.locals ∧ s1.heap.objs.size ∉ (reX (mk X.A.in1.in1.in1) s1 H1).fs := ⟨by rw [m9]; exact Nat.ne_of_gt (Nat.lt_trans hLa hSad), J0.nofs (Nat.le_refl _)⟩
  refine listG_call (hisg _ hgo) fun h' c0 kp hS => listG_fill (A := X.A.in1) (fun (m : Nat) (sx : Shared) => ∃ (k n : Nat) (G2 H2 : Hp) (gs : GenState) (PL : List (Addr × Obj)) (acc : Array Value) (cc : Nat) (ys : List V), m = ds.length - k ∧ n + k = ds.length ∧ L2.Inv X (pins ++ PL) σ H2 sx ∧ Grow noFoot noFoot G1 H1 G2 H2 ∧ (ad, go) ∈ PL ∧ (∀ p ∈ PL, p.1 ≠ s1.heap.objs.size) ∧
    sx.heap.get? s1.heap.objs.size = some (lstObj acc cc) ∧ H2 s1.heap.objs.size = none ∧ Vals ys acc.toList ∧ ys.length = k ∧ RpA X.K G2 (ds.take k) ys ∧ sx.gens[gi]? = some gs ∧
    Ready (model X.prog X.w) X.A.in1.in1.in1 (PhiS ⟨mk X.A.in1.in1.in1, X.A.in1.in1.in1, ds, G1, H1⟩ s1.heap.objs.size n (k, G2, H2, lstObj acc cc) (sx.setGen gi .running)) gs (sx.setGen gi .running)) ?_ ds.length _ ?_
  · -- a turn
    rintro m sx ⟨k, n, G2, H2, gs, PL, acc, cc, ys, rfl, hnk, Ix, grx, hPL, hPS, hSx, hSn2, rv, hys, ra, hgx, hready⟩
    have hgoX := (Ix.pin _ (List.mem_append_right _ (List.mem_append_right _ hPL))).1
    refine next_we (hK.room hh.h).hd Ix.nolimit (hK.room hh.h).depth (hisg _ hgoX) hgx hready (fun r z hΦz hsz => ?_) fun v gd l kk c1 p1 fs z hΦz hsz => ?_
    · have hE : lEnd ⟨mk X.A.in1.in1.in1, X.A.in1.in1.in1, ds, G1, H1⟩ s1.heap.objs.size n (k, G2, H2, lstObj acc cc) (sx.setGen gi .running) r z := by cases n <;> exact hΦz
      obtain ⟨hr, hk, σe, Ge, He, knE, grE, J⟩ := hE
      refine ⟨hr, fun h2 kp2 => ⟨rfl, ?_⟩⟩
      have hk : k = ds.length := hk
      have grE : Grow noFoot noFoot G1 H1 Ge He := grE
      obtain ⟨pS1, pS2, _⟩ := J.pin _ (List.mem_append_right _ List.mem_cons_self)
      have B : L2.Inv X pins σ He z := back gof Ix.unpinned (gs := sx.gens.setIfInBounds gi .running) J hlo hcl hpl2
      have B2 : L2.Inv X pins σ He { z.setGen gi .finished with heap := h2 } := (inv_gens B (allBare_setGen (s := z) (g := gi) (x := .finished) B.bare rfl)).kept (t' := z.toks) kp2
      have rds : RpA X.K Ge ds ys := by
        have := ra.mono knE
        rw [hk, List.take_length] at this
        exact this
      refine ⟨.ref s1.heap.objs.size, upd He s1.heap.objs.size (.lst ys), inv_track B2 bes pS2 (kp2 _ _ pS1) rv (by omega), rfl, ?_⟩
      exact new_own he (gr1.trans grE.weak) (A.grow st1 grE) rds hΦ kq s1.heap.objs.size pS2
    · cases n with
      | zero => exact hΦz.elim
      | succ n =>
      obtain ⟨hg2, d, x1, σe, Gy, Hy, hds, rvx, rd, kn, gr, J, kap⟩ := hΦz
      have hds : ds[k]? = some d := hds
      have gr : Grow noFoot noFoot G1 H1 Gy Hy := gr
      have rd : Rp (mk X.A.in1.in1.in1).K Gy d x1 := rd
      have m3' : (mk X.A.in1.in1.in1).K = X.K := m3
      rw [m3'] at rd
      have hkl : k < ds.length := (List.getElem?_eq_some_iff.mp hds).1
      obtain ⟨pS1, pS2, pS3, pS4, _⟩ := J.pin _ (List.mem_append_right _ List.mem_cons_self)
      have B : L2.Inv X pins σ Hy z := back gof Ix.unpinned (gs := sx.gens.setIfInBounds gi .running) J hlo hcl hpl2
      have B2 : L2.Inv X pins σ Hy (z.setGen gi (.suspended kk l c1 p1 fs false)) := inv_gens B (allBare_setGen (s := z) (g := gi) (x := .suspended kk l c1 p1 fs false) B.bare rfl)
      obtain ⟨mL, ⟨oz, esz, epz, hoz, rz1, rz2⟩, _⟩ := id J.loc
      have hoz : z.heap.get? (mk X.A.in1.in1.in1).env.locals = some oz := hoz
      have hpn : (ad, go) ∈ (mk X.A.in1.in1.in1).pn := by rw [m10]; exact List.mem_singleton.mpr rfl
      obtain ⟨hgz, hgn, _⟩ := J.pin (ad, go) (List.mem_append_left _ hpn)
      have hfree : Hy (mk X.A.in1.in1.in1).env.locals = none := J.free
      have B3 := pinG B2 hoz hfree (fun v e => by rw [rz1] at e; cases e) hgz hgn
      have B4 := inv_touch B3 (bes.more apG) pS2 pS1 (Obj.mapSeq (·.push v))
      obtain ⟨c', hS'⟩ : ∃ c', (z.heap.update s1.heap.objs.size (Obj.mapSeq (·.push v))).get? s1.heap.objs.size = some (lstObj (acc.push v) c') := ⟨_, Heap.get?_update_self _ pS1 rfl⟩
      have hgl : gi < sx.gens.size := (Array.getElem?_eq_some_iff.mp hgx).1
      have hacc : acc.size = ys.length := by rw [← Array.length_toList]; exact rv.length.symm
      have hgy : (z.setGen gi (.suspended kk l c1 p1 fs false)).gens[gi]? = some (.suspended kk l c1 p1 fs false) := setG_at (Nat.lt_of_lt_of_le hgl hsz)
      refine ⟨hg2, acc, cc, pS1, by omega, ds.length - (k + 1), by omega, k + 1, n, Gy, Hy, .suspended kk l c1 p1 fs false, _, acc.push v, c', ys ++ [x1], rfl, by omega, B4, gr, List.mem_cons_of_mem _ List.mem_cons_self, apG, hS', pS2, ?_, by rw [List.length_append, List.length_singleton, hys], ?_, hgy, ?_⟩
      · rw [Array.toList_push]; exact rv.append (.cons rvx .nil)
      · have e : ds.take (k + 1) = ds.take k ++ [d] := by rw [List.take_succ, hds]; rfl
        rw [e]
        exact (ra.mono kn).append (RpA.one rd)
      · have I5 := inv_gens B4 (g := (({ z.setGen gi (.suspended kk l c1 p1 fs false) with heap := z.heap.update s1.heap.objs.size (Obj.mapSeq (·.push v)) } : Shared).setGen gi .running).gens) (allBare_setGen B4.bare rfl)
        have J' := J.pins_of (pins' := []) fun p hp => (List.not_mem_nil hp).elim
        have W := wake gof J' I5 hoz (List.mem_append_right _ List.mem_cons_self) (fun p hp => by
          rw [List.append_nil, m10] at hp
          rw [List.mem_singleton.mp hp]
          exact List.mem_append_right _ (List.mem_cons_of_mem _ List.mem_cons_self))
        have W2 := inS J ⟨pS3, pS4⟩ W hS' pS2 fun v e => by cases e
        have hz := kap Gy Hy (({ z.setGen gi (.suspended kk l c1 p1 fs false) with heap := z.heap.update s1.heap.objs.size (Obj.mapSeq (·.push v)) } : Shared).setGen gi .running) (lstObj (acc.push v) c') (Grow.refl gr.gh) W2 (by show (mk X.A.in1.in1.in1).env.locals < _; exact Heap.lt_size (I5.pin _ (List.mem_append_right _ (List.mem_append_right _ List.mem_cons_self))).1)
        have hz : WE (model (mk X.A.in1.in1.in1).prog (mk X.A.in1.in1.in1).w) X.A.in1.in1.in1 (PhiS ⟨mk X.A.in1.in1.in1, X.A.in1.in1.in1, ds, G1, H1⟩ s1.heap.objs.size n (k + 1, Gy, Hy, lstObj (acc.push v) c') (({ z.setGen gi (.suspended kk l c1 p1 fs false) with heap := z.heap.update s1.heap.objs.size (Obj.mapSeq (·.push v)) } : Shared).setGen gi .running)) c1 (kk (.send .none)) fs (({ z.setGen gi (.suspended kk l c1 p1 fs false) with heap := z.heap.update s1.heap.objs.size (Obj.mapSeq (·.push v)) } : Shared).setGen gi .running) := hz
        rw [m1, m2] at hz
        exact hz
  · -- the start
    have I2 : L2.Inv X pins σ H1 { s1 with heap := h' } := Is.kept (t' := s1.toks) kp
    have hLz : H1 (mk X.A.in1.in1.in1).env.locals = none := by rw [m9]; exact I1.hok.fresh (Nat.le_refl _)
    have hLg : h'.get? (mk X.A.in1.in1.in1).env.locals = some oL := by rw [m9]; exact kp _ _ hgL
    have B3 := pinG (s2 := { s1 with heap := h' }) I2 hLg hLz hdL (kp _ _ hgo) (I1.hok.fresh (Nat.le_of_lt hLa))
    refine ⟨0, ds.length, G1, H1, .fresh c, _, #[], c0, [], rfl, rfl, B3, Grow.refl gr1.gh, List.mem_cons_of_mem _ List.mem_cons_self, apG, hS, hSn, .nil, rfl, rfl, hgens, ?_⟩
    have I5 := inv_gens B3 (g := (({ s1 with heap := h' } : Shared).setGen gi .running).gens) (allBare_setGen B3.bare rfl)
    have hL1 : s1.heap.get? (mk X.A.in1.in1.in1).env.locals = some oL := by rw [m9]; exact hgL
    have W := wake gof J0 I5 hL1 (List.mem_append_right _ List.mem_cons_self) (fun p hp => by
      rw [List.append_nil, m10] at hp
      rw [List.mem_singleton.mp hp]
      exact List.mem_append_right _ (List.mem_cons_of_mem _ List.mem_cons_self))
    have W2 := inS J0 ns0 W hS hSn fun v e => by cases e
    have hz := hrun s1.heap.objs.size (lstObj #[] c0) (({ s1 with heap := h' } : Shared).setGen gi .running) W2 (by rw [← m9]; exact Heap.lt_size hLg)
    have hz : WE (model (mk X.A.in1.in1.in1).prog (mk X.A.in1.in1.in1).w) X.A.in1.in1.in1 (PhiS ⟨mk X.A.in1.in1.in1, X.A.in1.in1.in1, ds, G1, H1⟩ s1.heap.objs.size ds.length (0, G1, H1, lstObj #[] c0) (({ s1 with heap := h' } : Shared).setGen gi .running)) c ((model X.prog X.w).den c) [] (({ s1 with heap := h' } : Shared).setGen gi .running) := hz
    rw [m1, m2] at hz
    exact hz
end
end L3
namespace L3
open PySem PySem.Spec PyProof.Rows L2 GenW
/-! ### the bodies of generators for one list, with states -/
section
variable {C : SC} {ds : List D} {E F : NE} {i : Nat} {P : GPost} {st : Stmt} {sts rest body orelse : List Stmt} {pos yp : Pos} {c e : Expr}
theorem LSt.fg {g S n t s₀ σ G H s} (z : LSt C g S E i n t s₀ σ G H s) (h : Fg E F) : LSt C g S F i n t s₀ σ G H s := ⟨z.num, z.it, z.gw, z.env.fg h, z.inv, z.lt⟩
theorem l_consC {nx bk ct : NE → Nat → Prop} (h : LStK C ds st E i ⟨fun E' i' => LRunK C ds rest E' i' ⟨nx, bk, ct⟩, bk, ct⟩) : LRunK C ds (st :: rest) E i ⟨nx, bk, ct⟩ := l_cons h
theorem LRunK.imp {P' : GPost} (h : LRunK C ds sts E i P) (h1 : ∀ E i, P.nx E i → P'.nx E i) (h2 : ∀ E i, P.bk E i → P'.bk E i) (h3 : ∀ E i, P.ct E i → P'.ct E i) : LRunK C ds sts E i P' := fun g S c fs f j gd lv hd hX ha kk n t s₀ σ G H s z =>
  h g S c fs f j gd lv hd hX ha ⟨fun E' i' n' t' s' σ' G' H' s2 q z' => kk.nx E' i' n' t' s' σ' G' H' s2 (h1 _ _ q) z', fun E' i' n' t' s' σ' G' H' s2 q z' => kk.bk E' i' n' t' s' σ' G' H' s2 (h2 _ _ q) z', fun E' i' n' t' s' σ' G' H' s2 q z' => kk.ct E' i' n' t' s' σ' G' H' s2 (h3 _ _ q) z'⟩ n t s₀ σ G H s z
theorem l_pl {nx bk ct : NE → Nat → Prop} (h : StK C A0 st E a0u ⟨fun E' _ => nx E' i, fun _ _ => False, fun E' _ => bk E' i, fun E' _ => ct E' i⟩) : LStK C ds st E i ⟨nx, bk, ct⟩ := l_plain h
theorem l_yieldS (h : EvK C A0 e E a0u fun d _ => ds[i]? = some d ∧ P.nx E (i + 1)) : LStK C ds (.Expr (.Yield (some e) yp) pos) E i P := l_yield h
end
end L3
namespace L3
open PySem PySem.Spec PyProof.Rows L2
/-! ### range(a, b, -1) -/
def rgD (m : Int) (n : Nat) : List D := (List.range n).map fun i : Nat => D.int (m - (i : Nat))
theorem rgD_len (m : Int) (n : Nat) : (rgD m n).length = n := by unfold rgD; rw [List.length_map, List.length_range]
theorem y_rgD {K : PySem.W.Frag} {G : Hp} {m : Int} {n : Nat} : Yields K G (Itc m (-1) n) (rgD m n) where
  go := fun i G' H' _ _ hi => by rw [rgD_len] at hi; exact hi
  yld := fun i G' H' x H2 _ k2 hi hy => by
    obtain ⟨rfl, rfl⟩ := hy
    rw [rgD_len] at hi
    refine ⟨.int (m - (i : Nat)), G', ?_, Grow.refl k2, ?_⟩
    · unfold rgD
      rw [List.getElem?_map, List.getElem?_range hi]; rfl
    · simp only [Rp]
      congr 1
      omega
  stop := fun i G' H' _ _ hi => by rw [rgD_len] at hi; exact hi
section
variable {C : SC} {A : Amb} {E : NE} {u : A.U} {pos p q p3 p4 : Pos} {a b c tg : Expr}
theorem i_rngD {Θ : List D → A.U → Prop} {j : Nat} (hn : Nm C.nm "range" .globalImplicit) (hm : C.mg "range" = none)
    (h : EvK C A a E u fun d u1 => EvK C A b E u1 fun d2 u' => ∃ m n : Int, d = .int m ∧ d2 = .int n ∧ (-(2 ^ 62) ≤ m ∧ m < 2 ^ 62 ∧ -(2 ^ 62) ≤ n ∧ n < 2 ^ 62) ∧ Θ (rgD m (m - n).toNat) u')
    (hs : ∀ env, starEach [a, b, .UnaryOp .USub (.Constant (.int 1) j p3) p4] env = (false, eval a env) :: starEach [b, .UnaryOp .USub (.Constant (.int 1) j p3) p4] env := by intro _; rfl)
    (hs2 : ∀ env, starEach [b, .UnaryOp .USub (.Constant (.int 1) j p3) p4] env = (false, eval b env) :: starEach [.UnaryOp .USub (.Constant (.int 1) j p3) p4] env := by intro _; rfl)
    (hs3 : ∀ env, starEach [.UnaryOp .USub (.Constant (.int 1) j p3) p4] env = (false, eval (.UnaryOp .USub (.Constant (.int 1) j p3) p4) env) :: starEach [] env := by intro _; rfl)
    (hpl : ∀ env, (backTo pos (starEach [b, .UnaryOp .USub (.Constant (.int 1) j p3) p4] env)).any (·.1) = false := by intro _; rfl) : EvI C A tg (.Call (.Name "range" q) [a, b, .UnaryOp .USub (.Constant (.int 1) j p3) p4] [] pos) E u Θ := by
  intro G0 H0 G H σ he R k X pins s hX I
  obtain ⟨jj, nm, rfl, hO, hK⟩ := id hX
  refine (pi_range3 (hn.gl hO) hm (pa_cons (pe_of hX a) (pa_cons (pe_of hX b) (pa_cons (pe_of hX _) pa_nil (hs3 X.env)) (hs2 X.env)) (hs X.env)) (hs X.env) (hpl X.env)).run pins s σ H R I ?_
  refine h G0 H0 G H σ he _ fun d u1 v G1 H1 p1 g1 st1 r1 => ?_
  refine p1 G0 H0 G1 H1 σ (he.go g1 st1) _ fun d2 u' v2 G2 H2 ⟨m, n, e1, e2, ⟨l1, l2, l3, l4⟩, p⟩ g st r => ?_
  subst e1 e2
  simp only [Rp] at r r1
  subst r r1
  refine k_neg (A := A) (E := E) (u := u') (Φ := fun d u3 => d = .int (-1) ∧ u3 = u') (k_int ⟨1, rfl, rfl, rfl⟩) G0 H0 G2 H2 σ ((he.go g1 st1).go g st) _ fun d' u3 v3 G3 H3 ⟨e3, eu⟩ g3 st3 r3 => ?_
  subst e3 eu
  simp only [Rp] at r3
  subst r3
  exact ⟨m, n, -1, (m - n).toNat, rfl, RgC.neg l1 l2 l3 l4, k _ _ _ G3 H3 p ((g1.trans g).trans g3) st3 y_rgD⟩
/-! ### a list, by an if -/
theorem n_if {Φ : List D → A.U → Prop} (h : EvT C A c E u fun k u1 => Br k (EvN C A a E u1 Φ) (EvN C A b E u1 Φ)) : EvN C A (.IfExp c a b pos) E u Φ := by
  intro G0 H0 G H σ he Q k X pins s hX I
  refine (pe_ifExp (pt_of hX c) (pe_of hX a) (pe_of hX b)).run pins s σ H Q I ?_
  refine h G0 H0 G H σ he _ fun kb u1 G1 H1 p g st => ?_
  have up : ∀ ds u' q xs G' H', Φ ds u' → Grow (A.foot u1) (A.foot u') G1 H1 G' H' → A.st u' G' H' → H1 q = none → G' q = none → ¬ A.foot u' q → H' q = some (.lst xs) → RpA C.K G' ds xs → Q (.ref q) H' := fun ds u' q xs G' H' p2 g2 s2 n1 n2 n3 e r => by
    refine k ds u' q xs G' H' p2 (g.trans g2) s2 ?_ n2 n3 e r
    cases w : H q with
    | none => rfl
    | some o => exact absurd n1 (g.th q (by rw [w]; simp))
  cases kb with
  | true => exact iteT (p.1 rfl G0 H0 G1 H1 σ (he.go g st) Q up)
  | false => exact iteF (p.2 rfl G0 H0 G1 H1 σ (he.go g st) Q up)
end
end L3
namespace L3
open PySem PySem.Spec PyProof.Rows L2
/-! ### a display of two entries; an int in a range -/
section
variable {C : SC} {A : Amb} {E : NE} {u : A.U} {pos p p2 q q1 : Pos} {e e2 a b : Expr} {Φ : D → A.U → Prop}
/-- {"..": e, "..": e2} -/
theorem k_disp2 {s s2 : Str} {j j2 : Nat} (h : EvK C A e E u fun d u1 => EvK C A e2 E u1 fun d2 u' => Φ (.dct [(.inr s, d), (.inr s2, d2)]) u') (hm : ∀ v v2 : V, mergeK ([] : List (Key × V)) [(.inr s, v), (.inr s2, v2)] = [(.inr s, v), (.inr s2, v2)] := by intro _ _; rfl) :
    EvK C A (.Dict [some (.Constant (.str s) j p), some (.Constant (.str s2) j2 p2)] [e, e2] pos) E u Φ := by
  refine EvK.of _ (fun X hX => pe_disp (pps_cons pe_str (pe_of hX e) (pps_cons pe_str (pe_of hX e2) pps_nil)) rfl rfl (by simp) (Nat.le_of_ble_eq_true rfl)) fun G0 H0 G H σ he Q k => ?_
  intro z hz
  have g1 : Grow noFoot noFoot G H G (upd H z (.dK [])) := Grow.own he.kn hz
  have st1 := A.grow he.st g1
  have hf : ¬ A.foot u z := fun f => A.there _ _ _ he.st z f hz
  refine h G0 H0 G _ σ (he.go g1.weak st1) _ fun d u1 v G2 H2 q1 g2 st2 r2 => ?_
  refine q1 G0 H0 G2 H2 σ ((he.go g1.weak st1).go g2 st2) _ fun d2 u' v2 G3 H3 q2 g3 st3 r3 => ?_
  have g := g2.trans g3
  have r2 := r2.mono g3.gg
  have hz3 : H3 z = some (.dK []) := g.hh z _ hf upd_same
  have hf3 : ¬ A.foot u' z := g.nf hf upd_same
  have gz : G z = none := he.kn.back hz
  have gz3 : G3 z = none := by
    cases w : G3 z with
    | none => rfl
    | some o =>
      have := g.fr z gz (by rw [w]; simp)
      rw [upd_same] at this
      cases this
  refine ⟨hz3, [(.inr s, v), (.inr s2, v2)], rfl, Nat.le_of_ble_eq_true rfl, ?_⟩
  rw [hm]
  have kn := Kn.new (G := G3) (p := z) (o := .dK [(.inr s, v), (.inr s2, v2)]) gz3
  refine k _ u' _ (upd G3 z (.dK [(.inr s, v), (.inr s2, v2)])) _ q2 ⟨g.gg.trans kn, fun a o w => ?_, fun a o f w => ?_, fun a w => ?_, fun a w n => ?_, fun a f => ?_⟩ (A.stay u' G3 H3 _ _ st3 kn (fun a o f w => ?_) fun a f w => ?_) ?_
  · by_cases e : a = z
    · subst e; rw [upd_same] at w ⊢; exact w
    · rw [upd_ne e] at w ⊢; exact g.gh a o w
  · have e : a ≠ z := ne_of_none w hz
    rw [upd_ne e]
    exact g.hh a o f (by rw [upd_ne e]; exact w)
  · by_cases e : a = z
    · subst e; rw [upd_same]; simp
    · rw [upd_ne e]; exact g.th a (by rw [upd_ne e]; exact w)
  · by_cases e : a = z
    · rw [e]; exact hz
    · rw [upd_ne e] at n
      have := g.fr a w n
      rwa [upd_ne e] at this
  · by_cases e : a = z
    · rw [e]; exact .inr hz
    · rcases g.ff a f with w | w
      · exact .inl w
      · rw [upd_ne e] at w; exact .inr w
  · rw [upd_ne (show a ≠ z from fun e => hf3 (by rw [← e]; exact f))]; exact w
  · rw [upd_ne (show a ≠ z from fun e => hf3 (by rw [← e]; exact f))]; exact w
  · simp only [Rp]
    exact ⟨z, _, rfl, upd_same, by simp only [RpK]; exact ⟨v, _, rfl, r2.mono kn, v2, [], rfl, r3.mono kn, rfl⟩⟩
/-- e[b], e a dict -/
theorem k_dgetE (h : EvK C A e E u fun da u1 => ∃ l, da = .dct l ∧ EvK C A b E u1 fun db u2 => ∃ (k : Key) (d : D), db = kD k ∧ valD l k = some d ∧ Φ d u2) (hx : NoSl b := by exact fun _ _ => rfl) : EvK C A (.Subscript e b pos) E u Φ := by
  intro G0 H0 G H σ he Q k X pins s hX I
  obtain ⟨j, nm, rfl, hO, hK⟩ := id hX
  have hu := Has.hu hK
  refine (pe_dget (by omega) (pe_of hX e) (pe_of hX b) hx).run pins s σ H Q I ?_
  refine h G0 H0 G H σ he _ fun da u1 v1 G1 H1 ⟨l, e1, h1⟩ g1 st1 r1 => ?_
  subst e1
  simp only [Rp] at r1
  obtain ⟨z, kvs, rfl, hz, hr⟩ := r1
  refine h1 G0 H0 G1 H1 σ (he.go g1 st1) _ fun db u2 v2 G2 H2 ⟨kk, d, e1, e2, q⟩ g st r => ?_
  subst e1
  rw [kD_rp] at r
  subst r
  obtain ⟨w, hw, rw_⟩ := (hr.mono g.gg).val e2
  refine ⟨z, w, rfl, ?_, k d u2 w G2 H2 q (g1.trans g) st rw_⟩
  have := DGet.k (k := kk) (g.gh _ _ (g.gg _ _ hz))
  rw [hw] at this
  exact this
/-! an int in a range -/
theorem cr_range1 {X : Cx} : CallR X (.type "range") (fun vs H Q => ∃ j, vs = [V.int j] ∧ ∀ p, H p = none → Q (.ref p) (upd H p (.rng 0 j))) := by
  intro pins s σ H vs us Q I r h
  obtain ⟨j, rfl, qq⟩ := h
  cases r with
  | cons r rr =>
    cases rr
    obtain ⟨t, rfl⟩ := r
    refine call_range_1 ⟨.ref s.heap.objs.size, upd H s.heap.objs.size (.rng 0 j), I.laid (t' := s.toks + 1 + 1) (fun b o e => Heap.get?_push_of_some _ e) (Nat.le_refl _) ?_, rfl, qq _ (I.hok.fresh (Nat.le_refl _))⟩
    exact ⟨s.toks, t, s.toks + 1, Heap.get?_push_size _ rfl⟩
theorem op_notin_rng {X : Cx} : OpR X (compareOp .NotIn) (fun x y H Q => ∃ i a lo hi, x = V.int i ∧ y = V.ref a ∧ H a = some (.rng lo hi) ∧ Q (.bl (!decide (lo ≤ i ∧ i < hi))) H) := by
  intro pins s σ H x y v u Q I rx ry h
  obtain ⟨i, a, lo, hi, rfl, rfl, ha, qq⟩ := h
  obtain ⟨k, rfl⟩ := rx
  obtain rfl : u = Value.ref a := ry
  obtain ⟨t1, t2, t3, ho⟩ := I.hok a _ ha
  have ty : Shared.TypeIs s (.ref a) "range" := ⟨_, ho, rfl⟩
  show wpAny _ _ (do return Value.bool (!(← contains (Value.ref a) (Value.int i k)))) _ _ s
  refine wpAny_bind (wpAny_contains_slot (T := "range") ty PySem.F.slot_range_contains ?_)
  refine call_meets PySem.F.slot_range_contains ty PySem.F.entry_range_contains (PySem.F.args_range_contains_2 _ _) (q_contains a lo hi i t1 t2 t3 k) ⟨ho, ?_⟩
  refine wpAny_truthy_bool (wpAny_pure ⟨.bl _, H, I, rfl, ?_⟩)
  rw [place1]
  exact qq
theorem boot_rng : bootBuiltins "range" = some (.type "range") := by decide +kernel
theorem t_ninR {Ψ : Bool → A.U → Prop} (hn : Nm C.nm "range" .globalImplicit) (hm : C.mg "range" = none)
    (h : EvK C A a E u fun da u1 => EvK C A b E u1 fun db u2 => ∃ i n : Int, da = .int i ∧ db = .int n ∧ Ψ (!decide (0 ≤ i ∧ i < n)) u2)
    (he : ∀ env, starEach [b] env = (false, eval b env) :: starEach [] env := by intro _; rfl) (hpl : ∀ env, (backTo q (starEach [] env)).any (·.1) = false := by intro _; rfl)
    (hk : behindInMarks .NotIn (.Call (.Name "range" q1) [b] [] q) = false := by rfl) :
    EvT C A (.Compare a [.NotIn] [.Call (.Name "range" q1) [b] [] q] pos) E u Ψ := by
  intro G0 H0 G H σ hE Q kq X pins s hX I
  obtain ⟨j, nm, rfl, hO, hK⟩ := id hX
  refine (pt_cmpR op_notin_rng (pe_of hX a) (pe_callTy cr_range1 (hn.gl hO) hm boot_rng (pa_of hX [b]) (by decide +kernel) (by decide +kernel) (he X.env) (hpl X.env)) hk).run pins s σ H Q I ?_
  refine h G0 H0 G H σ hE _ fun da u1 v1 G1 H1 h1 g1 st1 r1 => ?_
  have ha : EvA (stat X j nm) A [b] E u1 fun ds u2 => ∃ db, ds = [db] ∧ ∃ i n : Int, da = .int i ∧ db = .int n ∧ Ψ (!decide (0 ≤ i ∧ i < n)) u2 := a_cons (h1.imp fun d u2 z => a_nil ⟨d, rfl, z⟩) he
  refine ha G0 H0 G1 H1 σ (hE.go g1 st1) _ fun ds u2 vs G2 H2 ⟨db, e0, i, n, e1, e2, hΨ⟩ g2 st2 r2 => ?_
  subst e0 e1 e2
  rw [RpA.cons_iff] at r2
  obtain ⟨y, vs', rfl, ry, rn⟩ := r2
  rw [RpA.nil_iff] at rn
  subst rn
  simp only [Rp] at r1 ry
  subst r1 ry
  refine ⟨n, rfl, fun p hp => ?_⟩
  have g3 : Grow noFoot noFoot G2 H2 G2 (upd H2 p (.rng 0 n)) := Grow.own g2.gh hp
  refine ⟨i, p, 0, n, rfl, rfl, upd_same, ?_⟩
  exact ⟨_, rfl, kq _ _ _ _ hΨ ((g1.trans g2).trans g3.weak) (A.grow st2 g3)⟩
end
end L3
namespace L3
open PySem PySem.Spec PyProof.Rows L2
/-! ### floor division by what may be below nought; five targets; x[a] -= e -/
end L3
namespace L3
open PySem PySem.Spec PyProof.Rows L2
/-! ### exceptions, told by data -/
/-- the fields' values stand for data -/
def RpF (K : PySem.W.Frag) (G : Hp) : List (Str × D) → List (Str × V) → Prop
  | [], fs => fs = []
  | p :: ds, fs => ∃ x r, fs = (p.1, x) :: r ∧ Rp K G p.2 x ∧ RpF K G ds r
theorem RpF.mono {K : PySem.W.Frag} {G G' : Hp} (e : Kn G G') : ∀ {ds : List (Str × D)} {fs : List (Str × V)}, RpF K G ds fs → RpF K G' ds fs
  | [], _, h => h
  | p :: ds, fs, h => by
    obtain ⟨x, r, rfl, h1, h2⟩ := h
    exact ⟨x, r, rfl, h1.mono e, RpF.mono e h2⟩
theorem RpF.look {K : PySem.W.Frag} {G : Hp} {f : Str} {d : D} : ∀ {ds : List (Str × D)} {fs : List (Str × V)}, RpF K G ds fs → ds.lookup f = some d → ∃ v, fs.lookup f = some v ∧ Rp K G d v
  | [], _, _, e => by cases e
  | (g, d0) :: ds, fs, h, e => by
    obtain ⟨x, r, rfl, h1, h2⟩ := h
    rw [List.lookup_cons] at e ⊢
    cases q : f == g with
    | true => rw [q] at e; cases e; exact ⟨x, rfl, h1⟩
    | false => rw [q] at e; exact RpF.look h2 e
/-- an exception's dict: its fields, no datum as yet, new since H0 -/
def XdOk (K : PySem.W.Frag) (foot : Addr → Prop) (H0 G H : Hp) (fs : List (Str × D)) : Option Addr → Prop
  | none => fs = []
  | some d => ∃ vs, H d = some (.xd vs) ∧ G d = none ∧ ¬ foot d ∧ H0 d = none ∧ RpF K G fs vs
theorem XdOk.old {K : PySem.W.Frag} {foot : Addr → Prop} {H0 H1 G H : Hp} {fs : List (Str × D)} {d : Option Addr} (x : XdOk K foot H1 G H fs d) (h : ∀ a, H0 a ≠ none → H1 a ≠ none) : XdOk K foot H0 G H fs d := by
  cases d with
  | none => exact x
  | some d =>
    obtain ⟨vs, h1, h2, h3, h4, h5⟩ := x
    refine ⟨vs, h1, h2, h3, ?_, h5⟩
    cases w : H0 d with
    | none => rfl
    | some o => exact absurd h4 (h d (by rw [w]; simp))
/-- an exception of the class with these fields may fly from here -/
def XWish (C : SC) (A : Amb) (c : Value) (fs : List (Str × D)) (E : NE) (u : A.U) : Prop :=
  ∀ G0 H0 G H σ d, Env C A G0 H0 u G H E σ → XdOk C.K (A.foot u) H0 G H fs d → C.nx.xs.wx c d σ H
/-! ### defs that may raise -/
abbrev SemX (A : Amb) := List D → A.U → (D → A.U → Prop) → (Value → List (Str × D) → A.U → Prop) → Prop
def spX (K : PySem.W.Frag) (A : Amb) (sem : SemX A) : Sp := fun vs H Q E => ∃ (G : Hp) (ds : List D) (u : A.U) (Φ : D → A.U → Prop) (Ψ : Value → List (Str × D) → A.U → Prop), Kn G H ∧ A.st u G H ∧ RpA K G ds vs ∧ sem ds u Φ Ψ ∧
  (∀ d u' v G' H', Φ d u' → Grow (A.foot u) (A.foot u') G H G' H' → A.st u' G' H' → Rp K G' d v → Q v H') ∧
  ∀ c fs u' x G' H', Ψ c fs u' → Grow (A.foot u) (A.foot u') G H G' H' → A.st u' G' H' → XdOk K (A.foot u') H G' H' fs x → E c x H'
/-- the promise of a def that may raise, where no guard is up -/
structure FnX (P : Program) (w : World) (K : PySem.W.Frag) (mg : Str → Option Value) (base : Heap) (k : Nat) (f : Addr) (fd : FuncData) (ps : List Str) (sp : Sp) : Prop where
  len : ∀ vs H Q E, sp vs H Q E → vs.length = ps.length
  run : ∀ (A : Around) (outer : List PySem.Env) (s : Shared) (H : Hp) (args : Args) (us : List Value) (vs : List V) (Q : VK) (E : XK), Room k A → A.guards = some [] → Env0 P w K mg base A outer s H → BindsTo s fd args (ps.zip us) → Vals vs us → sp vs H Q E →
    codeAny (model P w) A (.call (.ref f) args) (CR (L2.CX P w) outer P w H s Q E) s
theorem FnX.mono {P : Program} {w : World} {K : PySem.W.Frag} {mg : Str → Option Value} {base : Heap} {j k : Nat} {f : Addr} {fd : FuncData} {ps : List Str} {sp : Sp} (F : FnX P w K mg base j f fd ps sp) (h : j ≤ k) : FnX P w K mg base k f fd ps sp :=
  ⟨F.len, fun A outer s H args us vs Q E hr => F.run A outer s H args us vs Q E (hr.mono h)⟩
/-- a def that may raise, at hand -/
structure DefX (P : Program) (w : World) (K : PySem.W.Frag) (mg : Str → Option Value) (base : Heap) (k : Nat) (A : Amb) (x : Str) (sem : SemX A) : Prop where
  ex : ∃ (f : Addr) (fd : FuncData) (ps : List Str), mg x = some (.ref f) ∧ PySem.W.keepIn K (.ref f) = true ∧ Binds K fd ps [] ∧ FnX P w K mg base k f fd ps (spX K A sem)
theorem DefX.mono {P : Program} {w : World} {K : PySem.W.Frag} {mg : Str → Option Value} {base : Heap} {j k : Nat} {A : Amb} {x : Str} {sem : SemX A} (F : DefX P w K mg base j A x sem) (h : j ≤ k) : DefX P w K mg base k A x sem := by
  obtain ⟨f, fd, ps, a, b, c, G⟩ := F.ex
  exact ⟨f, fd, ps, a, b, c, G.mono h⟩
section
variable {C : SC} {A : Amb} {E : NE} {u : A.U} {Φ : D → A.U → Prop} {pos p : Pos} {e : Expr} {es : List Expr}
/-- what is done with a callee's end -/
theorem run_fnX {X : Cx} {pins : List (Addr × Obj)} {σ : L2.St} {H : Hp} {s : Shared} {Q : VK} {Ex : XK} {W : WX} {us : List Value} {vs : List V} {k : Nat} {f : Addr} {fd : FuncData} {ps : List Str} {sp : Sp} (F : FnX X.prog X.w X.K X.mg X.base k f fd ps sp) (hr : Room k X.A) (hg : X.A.guards = some [])
    (tk : Takes X W) (hW : ∀ c d H', Ex c d H' → W c d σ H') (I : Inv X pins σ H s) (hb : BindsTo s fd ⟨us, []⟩ (ps.zip us)) (r : Vals vs us) (h : sp vs H Q Ex) : wpAny (model X.prog X.w) X.A (call (.ref f) us) (EP X pins σ Q) X.xe s := by
  refine wpAny_call (codeAny_mono (F.run X.A X.stack s H ⟨us, []⟩ us vs Q Ex hr hg I.env0 hb r h) fun rr s' hq => ?_)
  cases rr with
  | error e => exact tk e s' (XE.of_call I hW hq)
  | ok fl =>
    cases fl with
    | ret u => exact I.after hq
    | next => exact hq.elim
    | brk => exact hq.elim
    | cont => exact hq.elim
theorem k_callX [hh : Cold C] {x : Str} {sem : SemX A} (F : DefX C.P C.w C.K C.mg C.base C.k A x sem) (hn : Nm C.nm x .globalImplicit) (h : EvA C A (e :: es) E u fun ds u' => sem ds u' Φ fun c fs u2 => XWish C A c fs E u2)
    (hd : (x == ("__debug__" : Str)) = false := by decide +kernel) (he : ∀ env, starEach (e :: es) env = (false, eval e env) :: starEach es env := by intro _; rfl) (hpl : ∀ env, (backTo pos (starEach es env)).any (·.1) = false := by intro _; rfl) :
    EvK C A (.Call (.Name x p) (e :: es) [] pos) E u Φ := by
  intro G0 H0 G H σ hE Q q X pins s hX I
  obtain ⟨j, nm, rfl, hO, hK⟩ := id hX
  obtain ⟨f, fd, ps, hm, hk, hb, F⟩ := F.ex
  refine wpAny_Call_Name_kw (ld_glob I (hn.gl hO) hm ?_ hd)
  refine PySem.W.callWith_K (h₀ := X.base) I.ok.mod.kin hk (thn ((pa_of hX (e :: es)).run pos pins s σ H (fun vs H1 => spX X.K A sem vs H1 Q fun c d H2 => nm.xs.wx c d σ H2) I ?_) fun us s1 ⟨vs, H1, I1, r, z⟩ => ⟨I1.kIn, ?_⟩) (he X.env) (hpl X.env)
  · refine h G0 H0 G H σ hE _ fun ds u1 vs G1 H1 hs g st r => ?_
    exact ⟨G1, ds, u1, Φ, _, g.gh, st, r, hs, fun d u2 v G2 H2 p2 g2 st2 r2 => q d u2 v G2 H2 p2 (g.trans g2) st2 r2, fun c fs u2 d G2 H2 p2 g2 st2 hd2 => p2 G0 H0 G2 H2 σ d ((hE.go g st).go g2 st2) (hd2.old (hE.go g st).gr.th)⟩
  · have hl : us.length = ps.length := by rw [← r.length]; exact F.len _ _ _ _ z
    have hb' := hb s1 us I1.kIn (by rw [List.append_nil]; exact hl)
    rw [List.append_nil] at hb'
    exact run_fnX F (hK.room hh.h) hK.gd hK.tk (fun _ _ _ z => z) I1 hb' r z
end
/-! ### raise -/
/-- e makes an exception: its class, its fields -/
def MkK (C : SC) (A : Amb) (e : Expr) (E : NE) (u : A.U) (Θ : Value → List (Str × D) → A.U → Prop) : Prop :=
  ∀ G0 H0 G H σ, Env C A G0 H0 u G H E σ → ∀ Q : XK, (∀ c fs u' d G' H', Θ c fs u' → Grow (A.foot u) (A.foot u') G H G' H' → A.st u' G' H' → XdOk C.K (A.foot u') H G' H' fs d → Q c d H') →
    ∀ X pins s, Has C X → Inv X pins σ H s → wpAny (model X.prog X.w) X.A (eval e X.env) (MkP X pins σ Q) X.xe s
theorem s_raise {C : SC} [hh : Cold C] {A : Amb} {E : NE} {u : A.U} {e : Expr} {pos : Pos} {P : Post A} (h : MkK C A e E u fun c fs u' => XWish C A c fs E u') : StK C A (.Raise (some e) none pos) E u P := by
  intro G0 H0 G H σ Ds he S X pins s hX I
  obtain ⟨j, nx, rfl, hO, hK⟩ := id hX
  refine (ps_raise (t := fun σ1 H1 Q => ∀ pins s, Inv X pins σ1 H1 s → wpAny (model X.prog X.w) X.A (eval e X.env) (MkP X pins σ1 Q) X.xe s) (hK.calm hh.h) hK.tk (fun pins s σ1 H1 Q I1 q => q pins s I1)).run pins s σ H Ds I fun pins s I1 => ?_
  exact h G0 H0 G H σ he _ (fun c fs u' d G' H' p g st hd => p G0 H0 G' H' σ d (he.go g st) (hd.old he.gr.th)) X pins s hX I1
end L3
namespace L3
open PySem PySem.Spec PyProof.Rows L2
/-! ### own exceptions: made, raised; over any built-in base -/
/-- a class of errors: its name, its place, over a built-in one -/
structure ExC (K : PySem.W.Frag) (mg : Str → Option Value) (x : Str) (C : Addr) (bmB : List Value) (newId : String) : Prop where
  gC : mg x = some (.ref C)
  kC : PySem.W.keepIn K (.ref C) = true
  q : PySem.W.excInitIn K C bmB newId = true
  ov : PySem.W.excOver K C bmB = true
  hd : PySem.W.hasDictIn K C = true
  sa : PySem.W.findIn K (.ref C) "__setattr__" = some (some (.builtin "object.__setattr__"))
  ga : PySem.W.findIn K (.ref C) "__getattribute__" = some (some (.builtin "BaseException.__getattribute__"))
  gg : PySem.W.findIn K (.ref C) "__getattr__" = some none
  exC : PySem.W.subIn K (.ref C) (.type "BaseException") = some true
  tyC : PySem.W.typeIn K (.ref C) = some (.type "type")
theorem ExC.xf {K : PySem.W.Frag} {mg : Str → Option Value} {x : Str} {C : Addr} {bmB : List Value} {newId : String} (T : ExC K mg x C bmB newId) : XfC K C := ⟨T.ga, T.gg, T.exC, T.hd⟩
theorem ExC.rs {X : Cx} {x : Str} {C : Addr} {bmB : List Value} {newId : String} (T : ExC X.K X.mg x C bmB newId) : Raises X (.ref C) := raises_own T.exC T.tyC
section
variable {X : Cx} {pins : List (Addr × Obj)} {σ : L2.St} {H : Hp} {s : Shared} {a C : Addr} {f x : Str} {y : V} {u : Value} {E : Value → Shared → Prop} {A : Around} {B newId initId : String} {bmB : List Value}
/-- a fresh exception has got its dict -/
theorem inv_dict {hp h' : Heap} {g : Array GenState} {dr : Drawn} {t t' : Nat} {os : OsState} {dx : Addr} {o1 : Obj} {mA : Str → Option Value} {fs : List (Str × V)} (I : Inv X pins σ H ⟨hp, g, dr, t, os⟩) (e : H a = some (exo a C none)) (k : ∀ b o, b ≠ a → hp.get? b = some o → h'.get? b = some o) (dn : hp.objs.size ≤ dx) (dne : dx ≠ a)
    (hx : ∃ t1 : Addr, h'.get? a = some ({ cls := .ref C, dict := some dx, data := .fields #[.ref t1, .none, .none, .none, .bool false, .none] } : Obj)) (hn : h'.Ns1 dx mA) (hr : ∀ g, RelO (fs.lookup g) (mA g)) :
    Inv X pins σ (upd (upd H dx (exd dx fs)) a (exo a C (some dx))) ⟨h', g, dr, t', os⟩ := by
  obtain ⟨t1, hx⟩ := hx
  have nH : H dx = none := I.hok.fresh dn
  have off : ∀ {b : Addr} {o : Obj}, hp.get? b = some o → b ≠ dx := fun {b o} q z => by
    have z1 := Heap.lt_size q
    rw [z] at z1
    exact absurd z1 (Nat.not_lt.mpr dn)
  have offA : ∀ {b : Addr}, H b = none → b ≠ a := fun {b} n z => by rw [z, e] at n; cases n
  have kp : ∀ {b : Addr} {o : HO}, H b = some o → o ≠ exo a C none → upd (upd H dx (exd dx fs)) a (exo a C (some dx)) b = some o := fun {b o} q n => by
    rw [upd_ne (at_ne e q (Ne.symm n)), upd_ne (ne_of_none q nH)]; exact q
  refine I.un (t' := t') ⟨?_, ?_, ?_, ?_, ?_, ?_, ?_⟩ ?_
  · exact fun b o q n _ _ => k b o (offA n) q
  · exact fun b o q n _ _ => ⟨o.slots, k b o (offA n) q⟩
  · exact fun b o q n _ => by rw [upd_ne (offA n), upd_ne (off q)]; exact n
  · intro b o q _
    by_cases hb : b = a
    · subst hb; exact ⟨_, hx⟩
    · exact ⟨o, k b o hb q⟩
  · exact fun b xs q => kp q exo_tup.symm
  · exact fun b o v q => kp q exo_frz.symm
  · exact fun b ps q => ⟨#[], by rw [kp q exo_tbl.symm, Array.append_empty]⟩
  · intro b o q
    by_cases hb : b = a
    · subst hb
      rw [upd_same] at q
      obtain rfl := Option.some.inj q
      exact exo_ok hx
    rw [upd_ne hb] at q
    by_cases hd : b = dx
    · subst hd
      rw [upd_same] at q
      obtain rfl := Option.some.inj q
      exact exd_ok hn hr
    rw [upd_ne hd] at q
    refine (I.hok b o q).stay (fun c v hc z => ?_) (fun c hc => kp hc exo_own.symm) (fun c xs hc => kp hc exo_tup.symm)
    refine k c v (fun w => ?_) z
    rcases hc with hc | hc
    · exact hb (hc.symm.trans w)
    · rw [w, e] at hc; exact exo_own (Option.some.inj hc)
open Builtin Builtin.ObjectAttr in
/-- the first field of a fresh exception -/
theorem ost_any (SF : StoreFacts B bmB "object.__setattr__" "object") (T : ExC X.K X.mg x C bmB newId) (I : Inv X pins σ H s) (e : H a = some (exo a C none)) (hno : PySem.W.findIn X.K (.ref C) f = some none) (ry : RelV y u) {Q : Unit → Shared → Prop}
    (h : ∀ dx s', H dx = none → dx ≠ a → Inv X pins σ (upd (upd H dx (exd dx [(f, y)])) a (exo a C (some dx))) s' → Q () s') : wpAny (model X.prog X.w) A (setAttr (.ref a) f u) Q E s := by
  obtain ⟨cd, hcd⟩ : ∃ cd, PySem.W.clsIn X.K C = some cd := by
    have z := T.ov
    unfold PySem.W.excOver at z
    cases w : PySem.W.clsIn X.K C with
    | none => rw [w] at z; cases z
    | some cd => exact ⟨cd, rfl⟩
  have hdct : cd.hasDict = true := by
    have z := T.hd
    unfold PySem.W.hasDictIn at z
    rw [hcd] at z
    exact z
  obtain ⟨t1, ho⟩ := exo_at I.hok e
  obtain ⟨hp, g, dr, t, os⟩ := s
  have IA : PySem.W.InstAt hp a { cls := .ref C, dict := none, data := .fields #[.ref t1, .none, .none, .none, .bool false, .none] } C none := ⟨ho, rfl, rfl, trivial⟩
  have hxs : a ≠ hp.objs.size := Nat.ne_of_lt (Heap.lt_size ho)
  have htk : PySem.W.takerIn X.K C f = some none := by
    unfold PySem.W.takerIn
    rw [hno]; rfl
  have Lc : PySem.W.Looks (model X.prog X.w) hp (classData C) cd := PySem.W.looks_clsIn I.kIn hcd
  refine PySem.W.set_plain I.kIn IA T.sa (PySem.W.osa_openX (s := ⟨hp, g, dr, t + 1, os⟩) SF I.kIn IA T.ov htk fun b => ?_)
  obtain ⟨nm, bs, mro, ns, qn, hasd, sn, sb, ab, col, del⟩ := cd
  dsimp only at hdct
  subst hdct
  show wpAny _ _ (storeInOwnDict (.ref a) (.ref C) (.str f _) f u b) _ _ _
  unfold storeInOwnDict ownDictForStores
  repeat (first | with_reducible refine PySem.HandSPX.store_in_new ?_ ?_ | with_reducible refine wpAny_loadPart_at ho ?_ | with_reducible refine Lc.at ?_ | wp_step)
  · exact ⟨_, #[], _, (Heap.get?_update_ne _ _ _ _ hxs.symm).trans (Heap.get?_push_at rfl rfl), rfl, fun e he => absurd he (by simp), fun _ => rfl⟩
  · intro h' tk' hn' hs
    have ho1 : (hp.push { cls := .type "dict", data := .dict #[] }).get? a = some { cls := .ref C, dict := none, data := .fields #[.ref t1, .none, .none, .none, .bool false, .none] } := Heap.get?_push_of_some _ ho
    refine h hp.objs.size _ (I.hok.fresh (Nat.le_refl _)) hxs.symm (inv_dict (o1 := { cls := .none, data := .fields #[] }) (dx := hp.objs.size) I e (fun b o hb hbo => ?_) (Nat.le_refl _) hxs.symm ⟨t1, ?_⟩ hn' ?_)
    · rw [hs.2 b (Nat.ne_of_lt (Heap.lt_size hbo)), Heap.get?_update_ne _ _ _ _ hb]
      exact Heap.get?_push_of_some _ hbo
    · rw [hs.2 a hxs]
      exact Heap.get?_update_self _ ho1 rfl
    · exact relO_put (fs := []) ry fun g => True.intro
/-- the class's object in the heap -/
theorem ExC.obj (T : ExC X.K X.mg x C bmB newId) (I : Inv X pins σ H s) : ∃ nm N qn bs bm hdct sn sub ab col dd k0 k1 k2 k3 k5,
    s.heap.get? C = some (excClassObj nm qn C N bs bm hdct sn sub ab col dd k0 k1 k2 k3 k5 newId) ∧ ∀ Y : String, bm.contains (.type Y) = bmB.contains (.type Y) := PySem.W.excInit_of I.kIn T.q
/-- the base's __init__: nothing of it is told -/
theorem obase_any (F : ExcBaseFacts B newId initId bmB) (T : ExC X.K X.mg x C bmB newId) (I : Inv X pins σ H s) (e : H a = some (exo a C none)) {us : List Value} (hl : us.length ≤ sizeLine) {Q : Value → Shared → Prop} (h : ∀ s', Inv X pins σ H s' → Q .none s') :
    wpAny (model X.prog X.w) A (call (.builtin initId) (.ref a :: us)) Q E s := by
  obtain ⟨nm, N, qn, bs, bm, hdct, sn, sub, ab, col, dd, k0, k1, k2, k3, k5, hC, hT⟩ := T.obj I
  obtain ⟨t1, ho⟩ := exo_at I.hok e
  obtain ⟨hp, g, dr, t, os⟩ := s
  refine wpAny_call (PySem.HandSPX.init_base F hT hC ho hl fun h' t2 k hx => ?_)
  have J := I.write (t' := t) (x := a) (e := a) (o := exo a C none) (by rw [e]; exact True.intro) (.inl rfl) k ⟨_, hx⟩ (exo_ok hx)
  have same : upd H a (exo a C none) = H := funext fun b => by
    by_cases hb : b = a
    · rw [hb, upd_same, e]
    · rw [upd_ne hb]
  exact h _ (same ▸ J)
end
/-! ### the __init__ of such a class: Base.__init__(self, ".."); self.f = f -/
/-- the base's __init__ as it is read: through an own class at CB, or a built-in one -/
def BaseInit (K : PySem.W.Frag) (mg : Str → Option Value) (b : Str) (initId : String) : Prop :=
  (∃ CB : Addr, mg b = some (.ref CB) ∧ PySem.W.readsIn K CB (.type "type") = true ∧ PySem.W.findCls K (.ref CB) (.type "type") "__init__" = some (.val (.builtin initId)) ∧ PySem.W.specialIn K (.ref CB) "__getattribute__" = some (some (.builtin "type.__getattribute__"))) ∨
  (∃ T : String, mg b = none ∧ bootBuiltins b = some (.type T) ∧ b ≠ "__name__" ∧ typeOf (.type T) = pure (.type "type") ∧ Manifest.isStub T = false ∧ PySem.W.findCls K (.type T) (.type "type") "__init__" = some (.val (.builtin initId)))
/-- what __init__ promises -/
def spInit (C : Addr) (f : Str) : Sp := fun vs H Q _ => ∃ (a : Addr) (y : V), vs = [.ref a, y] ∧ H a = some (exo a C none) ∧ ∀ d, H d = none → d ≠ a → Q .non (upd (upd H d (exd d [(f, y)])) a (exo a C (some d)))
section
variable {P : Program} {w : World} {K : PySem.W.Frag} {mg : Str → Option Value} {base : Heap} {B newId initId : String} {bmB : List Value}
theorem init_ok {x b f qual : Str} {m : Str} {j} {st : Stmt} {fI C : Addr} {fd : FuncData} {nm : List (Str × NameKind)} {k : Nat} {p1 p2 p3 p4 p5 p6 q1 q2 q3 q4 : Pos} (F : Fun K "__init__" qual st fI fd) (S : ScOk ["self", f] ["self", f] st nm)
    (hb : defBody st = [.Expr (.Call (.Attribute (.Name b p1) "__init__" p2) [.Name "self" p3, .Constant (.str m) j p4] [] p5) p6, .Assign [.Attribute (.Name "self" q1) f q2] (.Name f q3) q4])
    (ns : (defScope st).names.lookup ("self" : Str) = some .local) (nf : (defScope st).names.lookup f = some .local) (nb : (defScope st).names.lookup b = some .globalImplicit) (FB : ExcBaseFacts B newId initId bmB) (SF : StoreFacts B bmB "object.__setattr__" "object")
    (T : ExC K mg x C bmB newId) (hno : PySem.W.findIn K (.ref C) f = some none) (BI : BaseInit K mg b initId) (hh : PySem.W.handedIn (.builtin initId) = true := by decide +kernel) {pl : PySem.Env → Sem Bool}
    (hc : ∀ env, eval (.Call (.Attribute (.Name b p1) "__init__" p2) [.Name "self" p3, .Constant (.str m) j p4] [] p5) env = (do
      let ov ← eval (.Name b p1) env
      standAt p2.atName
      let (g, first) ← holding [ov] (getMethod ov "__init__" (pl env))
      callWith p5 g first (backTo p5 (starEach [.Name "self" p3, .Constant (.str m) j p4] env)) (backToKw p5 (keywordEach [] env))) := by intro _; rfl)
    (db : (b == ("__debug__" : Str)) = false := by decide +kernel) (df : (f == ("__debug__" : Str)) = false := by decide +kernel) (cf : (f == ("__classdict__" : Str)) = false := by decide +kernel) :
    FnOk P w K mg base (L2.CX P w) (k + 1) fI fd ["self", f] (spInit C f) := by
  refine F.okX S.sc (fun vs H Q E ⟨a, y, e, _⟩ => by rw [e]; rfl) ?_
  rintro cdv Ar outer s H vs Q E hr ⟨a, y, rfl, ha, q⟩
  rw [hb]
  let X := cxOf (L2.CX P w) P w K mg base ["self", f] qual (defScope st) fI cdv Ar outer s H E
  refine ⟨fun D σ H1 => σ = L2.start ["self", f] [.ref a, y] ∧ H1 = H ∧ ∀ d, H d = none → d ≠ a → D.nx σ (upd (upd H d (exd d [(f, y)])) a (exo a C (some d))), ⟨fun pins s1 σ H1 D I hq => ?_⟩, rfl, rfl, fun d h1 h2 => q d h1 h2⟩
  obtain ⟨eσ0, eH0, hq⟩ := hq
  rw [eσ0, eH0] at I
  rw [eσ0] at hq
  clear eσ0 eH0
  have hcall : PE X (.Call (.Attribute (.Name b p1) "__init__" p2) [.Name "self" p3, .Constant (.str m) j p4] [] p5) (fun σ H2 Q2 => σ = L2.start ["self", f] [.ref a, y] ∧ H2 a = some (exo a C none) ∧ Q2 .non H2) := by
    refine ⟨fun pins s2 σ H2 Q2 I2 ⟨eσ, e2, q2⟩ => ?_⟩
    have ha2 : PA X [.Name "self" p3, .Constant (.str m) j p4] _ := pa_cons (pe_var (i := 0) (x := "self") rfl (.inl ns) (by decide +kernel) (by decide +kernel)) (pa_cons pe_str pa_nil)
    have go : ∀ (s3 : Shared) (first : List Value), first = [] → Inv X pins σ H2 s3 → wpAny (model X.prog X.w) X.A (callWith p5 (.builtin initId) first (backTo p5 (starEach [.Name "self" p3, .Constant (.str m) j p4] X.env)) []) (EP X pins σ Q2) X.xe s3 := by
      rintro s3 _ rfl I3
      refine PyProof.Rows.callWith_method1 (thn (ha2.run p5 pins s3 σ H2 (fun vs H3 => vs = [.ref a, .str m] ∧ H3 = H2) I3 ?_) fun us s4 ⟨vs, H3, I4, r4, ev, eH⟩ => ?_) rfl rfl
      · rw [eσ]; exact ⟨.ref a, rfl, rfl, rfl⟩
      · subst ev eH
        cases r4 with
        | @cons _ u0 _ ur ra rw' =>
          obtain rfl : u0 = Value.ref a := ra
          have hlen : ur.length ≤ sizeLine := by
            rw [← Paired.length rw', sizeLine_eq]; show 1 ≤ 16777216; decide
          exact obase_any FB T I4 e2 hlen fun s' J => ⟨.non, H3, J, rfl, q2⟩
    rcases BI with ⟨CB, mb, rd, fc, sp⟩ | ⟨T', mb, bb, bn, ty, stb, fc⟩
    · refine PySem.W.methodCall_KW (ld_glob I2 (show Gl X b from nb) mb ?_ db) (hc X.env)
      refine PySem.W.method_cls I2.kIn sp (PySem.W.cls_value I2.kIn rd fc hh ?_)
      exact go _ [] rfl (I2.tok _)
    · refine PySem.W.methodCall_KW (ld_blt I2 (show Gl X b from nb) mb bb ?_ bn db) (hc X.env)
      obtain ⟨mf, fr⟩ := I2.fr
      refine PySem.W.method_type fr I2.ok.mod.kin ty stb fc hh ?_
      exact go _ [] rfl (I2.tok _)
  have hself : PE X (.Name "self" q1) _ := pe_var (i := 0) (x := "self") rfl (.inl ns) (by decide +kernel) (by decide +kernel)
  have hval : PE X (.Name f q3) _ := pe_var (i := 1) (x := f) rfl (.inl nf) df cf
  let u0 : TS := fun D σ H2 => σ = L2.start ["self", f] [.ref a, y] ∧ H2 = H ∧ ∀ d, H d = none → d ≠ a → D.nx σ (upd (upd H d (exd d [(f, y)])) a (exo a C (some d)))
  have hst : PS X (.Assign [.Attribute (.Name "self" q1) f q2] (.Name f q3) q4) u0 := by
    refine ⟨fun pins s3 σ3 H3 D3 I3 ⟨e1, e2, hq3⟩ => ?_⟩
    rw [e1, e2] at I3
    rw [e1] at hq3
    clear e1 e2
    refine plainObj_wpAny_Assign_Attribute (thn (hval.run pins s3 _ H (fun v H4 => v = y ∧ H4 = H) I3 ⟨y, rfl, rfl, rfl⟩) fun v s4 ⟨z, H4, I4, r4, ez, eH⟩ => ?_) rfl
    rw [eH] at I4
    rw [ez] at r4
    refine thn (hself.run pins s4 _ H (fun v H5 => v = .ref a ∧ H5 = H) I4 ⟨.ref a, rfl, rfl, rfl⟩) fun u s5 ⟨z2, H5, I5, r5, ez2, eH2⟩ => ?_
    rw [eH2] at I5
    rw [ez2] at r5
    obtain rfl : u = Value.ref a := r5
    exact ost_any SF T I5 ha hno r4 fun dx s' n ne J => ⟨_, _, J, hq3 dx n ne⟩
  exact (pss_cons (ps_expr hcall rfl) (pss_one hst)).run pins s1 _ H D I ⟨rfl, ha, rfl, rfl, hq⟩
end
/-! ### such errors made, by data -/
/-- a class with one field, at hand -/
structure MkI (P : Program) (w : World) (K : PySem.W.Frag) (mg : Str → Option Value) (base : Heap) (k : Nat) (x : Str) (C : Addr) (f : Str) : Prop where
  ex : ∃ (bmB : List Value) (B newId initId : String) (fI : Addr) (fd : FuncData) (k0 : Nat), k0 + 1 ≤ k ∧ ExC K mg x C bmB newId ∧ ExcBaseFacts B newId initId bmB ∧ PySem.W.findIn K (.ref C) f = some none ∧ PySem.W.findIn K (.ref C) "__init__" = some (some (.ref fI)) ∧
    PySem.W.typeIn K (.ref fI) = some (.type "function") ∧ Binds K fd ["self", f] [] ∧ FnOk P w K mg base (L2.CX P w) k0 fI fd ["self", f] (spInit C f)
theorem MkI.mono {P : Program} {w : World} {K : PySem.W.Frag} {mg : Str → Option Value} {base : Heap} {j k : Nat} {x : Str} {C : Addr} {f : Str} (M : MkI P w K mg base j x C f) (h : j ≤ k) : MkI P w K mg base k x C f := by
  obtain ⟨bmB, B, newId, initId, fI, fd, k0, hk, r⟩ := M.ex
  exact ⟨bmB, B, newId, initId, fI, fd, k0, Nat.le_trans hk h, r⟩
/-- a class without a field, at hand -/
structure MkP0 (K : PySem.W.Frag) (mg : Str → Option Value) (x : Str) (C : Addr) : Prop where
  ex : ∃ (bmB : List Value) (B newId initId : String), ExcBaseFacts B newId initId bmB ∧ PySem.W.excIn K C bmB newId = true ∧ mg x = some (.ref C) ∧ PySem.W.keepIn K (.ref C) = true ∧ PySem.W.subIn K (.ref C) (.type "BaseException") = some true ∧ PySem.W.typeIn K (.ref C) = some (.type "type")
section
variable {C : SC} {A : Amb} {E : NE} {u : A.U} {pos p : Pos} {e : Expr} {x f : Str} {Cx : Addr} {Θ : Value → List (Str × D) → A.U → Prop}
theorem mk_one [hh : Cold C] (M : MkI C.P C.w C.K C.mg C.base C.k x Cx f) (hn : Nm C.nm x .globalImplicit) (h : EvK C A e E u fun d u' => Θ (.ref Cx) [(f, d)] u')
    (hd : (x == ("__debug__" : Str)) = false := by decide +kernel) (he : ∀ env, starEach [e] env = (false, eval e env) :: starEach [] env := by intro _; rfl) : MkK C A (.Call (.Name x p) [e] [] pos) E u Θ := by
  intro G0 H0 G H σ hE Q q X pins s hX I
  obtain ⟨j, nx, rfl, hO, hK⟩ := id hX
  obtain ⟨bmB, B, newId, initId, fI, fd, k0, hk, T, FB, hno, iC, tI, hb, F⟩ := M.ex
  have hroom : Room (k0 + 1) X.A := (hK.room hh.h).mono hk
  refine wpAny_Call_Name_kw (ld_glob I (hn.gl hO) T.gC ?_ hd)
  refine PySem.W.callWith_K (h₀ := X.base) I.ok.mod.kin T.kC (thn ((pa_cons (pe_of hX e) pa_nil (he X.env)).run pos pins s σ H (fun vs H1 => ∃ d u1 v G1, vs = [v] ∧ Θ (.ref Cx) [(f, d)] u1 ∧ Grow (A.foot u) (A.foot u1) G H G1 H1 ∧ A.st u1 G1 H1 ∧ Rp X.K G1 d v) I ?_) fun us s1 ⟨vs, H1, I1, r1, d, u1, v, G1, ev, hΘ, g1, st1, rd⟩ => ⟨I1.kIn, ?_⟩) (he X.env) rfl
  · exact h G0 H0 G H σ hE _ fun d u1 v G1 H1 p g st r => ⟨d, u1, v, G1, rfl, p, g, st, r⟩
  subst ev
  show wpAny _ _ (call (.ref Cx) us) _ _ _
  obtain ⟨hp, g, dr, tk, os⟩ := s1
  obtain ⟨nm, N, qn, bs, bm, hdct, sn, sub, ab, col, dd, k0, k1, k2, k3, k5, hC, hT⟩ := T.obj I1
  have hsz : hp.objs.size ≤ hp.objs.size + 1 := Nat.le_succ _
  have hnew : H1 (hp.objs.size + 1) = none := I1.hok.fresh hsz
  have kk : ∀ b o, hp.get? b = some o → ((hp.push (PySem.W.kdv_tup us)).push (PySem.HandSPX.excO Cx hp.objs.size)).get? b = some o := fun b o w => Heap.get?_push_of_some _ (Heap.get?_push_of_some _ w)
  have hget : ((hp.push (PySem.W.kdv_tup us)).push (PySem.HandSPX.excO Cx hp.objs.size)).get? (hp.objs.size + 1) = some (PySem.HandSPX.excO Cx hp.objs.size) := by heap_get
  have I2 : Inv X pins σ (upd H1 (hp.objs.size + 1) (exo (hp.objs.size + 1) Cx none)) ⟨(hp.push (PySem.W.kdv_tup us)).push (PySem.HandSPX.excO Cx hp.objs.size), g, dr, tk, os⟩ := I1.laid (t' := tk) kk hsz (exo_ok hget)
  have hus : us.length ≤ sizeLine := by
    rw [← Paired.length r1, sizeLine_eq]; show 1 ≤ 16777216; decide
  have hl : (Value.ref (hp.objs.size + 1) :: us).length = (["self", f] : List Str).length := by
    rw [List.length_cons, ← Paired.length r1]; rfl
  have r2 : Vals [V.ref (hp.objs.size + 1), v] (Value.ref (hp.objs.size + 1) :: us) := .cons rfl r1
  have hb' := hb _ (Value.ref (hp.objs.size + 1) :: us) I2.kIn (by rw [List.append_nil]; exact hl)
  rw [List.append_nil] at hb'
  have fin : spInit Cx f [V.ref (hp.objs.size + 1), v] (upd H1 (hp.objs.size + 1) (exo (hp.objs.size + 1) Cx none)) (fun z H2 => z = .non ∧ ∃ dx : Addr, H1 dx = none ∧ dx ≠ hp.objs.size + 1 ∧ H2 = upd (upd (upd H1 (hp.objs.size + 1) (exo (hp.objs.size + 1) Cx none)) dx (exd dx [(f, v)])) (hp.objs.size + 1) (exo (hp.objs.size + 1) Cx (some dx))) (fun _ _ _ => False) :=
    ⟨_, v, rfl, upd_same, fun dx n ne => ⟨rfl, dx, by rw [upd_ne ne] at n; exact n, ne, rfl⟩⟩
  refine wpAny_call (PySem.HandSPX.call_own FB hT hC (PySem.W.looks_findIn I1.kIn iC) (fun self => PySem.W.bind_fn I1.kIn self tI) hus
    (codeAny_mono (F.run _ X.stack _ _ ⟨Value.ref (hp.objs.size + 1) :: us, []⟩ (Value.ref (hp.objs.size + 1) :: us) _ _ (fun _ _ _ => False) (hroom.make Cx us []) (I2.env0.make Cx us []) hb' r2 fin) fun r s' hq => ?_))
  cases r with
  | error er => obtain ⟨_, _, _, _, _, _, _, _, _, _, _, _, z⟩ := hq; exact z.elim
  | ok fl =>
    cases fl with
    | next => exact hq.elim
    | brk => exact hq.elim
    | cont => exact hq.elim
    | ret w =>
      obtain ⟨z, H2, os2, bare2, un2, hok2, rv, ez, dx, nd, dne, eH⟩ := hq
      subst ez
      obtain ⟨h2, g2, d2, t2, os'⟩ := s'
      have ea : H2 (hp.objs.size + 1) = some (exo (hp.objs.size + 1) Cx (some dx)) := by rw [eH, upd_same]
      have ed : H2 dx = some (exd dx [(f, v)]) := by rw [eH, upd_ne dne, upd_same]
      refine ⟨rv, mk_end T.rs I1 hsz kk un2 hok2 os2 bare2 ea ed nd ?_⟩
      have same : upd (del H2 (hp.objs.size + 1)) dx (.xd [(f, v)]) = upd H1 dx (.xd [(f, v)]) := funext fun b => by
        by_cases hb1 : b = dx
        · rw [hb1, upd_same, upd_same]
        · rw [upd_ne hb1, upd_ne hb1]
          by_cases hb2 : b = hp.objs.size + 1
          · rw [hb2, del_same, hnew]
          · rw [del_ne hb2, eH, upd_ne hb2, upd_ne hb1, upd_ne hb2]
      rw [same]
      have gr : Grow noFoot noFoot G1 H1 G1 (upd H1 dx (.xd [(f, v)])) := Grow.own g1.gh nd
      have n0 : H dx = none := by
        cases w : H dx with
        | none => rfl
        | some o => exact absurd nd (g1.th dx (by rw [w]; simp))
      exact q _ _ u1 (some dx) G1 _ hΘ (g1.trans gr.weak) (A.grow st1 gr) ⟨[(f, v)], upd_same, g1.gh.back nd, fun z => A.there _ _ _ st1 dx z nd, n0, v, [], rfl, rd, rfl⟩
theorem mk_none [hh : Cold C] (M : MkP0 C.K C.mg x Cx) (hn : Nm C.nm x .globalImplicit) (q : Θ (.ref Cx) [] u) (hd : (x == ("__debug__" : Str)) = false := by decide +kernel) : MkK C A (.Call (.Name x p) [] [] pos) E u Θ := by
  intro G0 H0 G H σ hE Q k X pins s hX I
  obtain ⟨j, nx, rfl, hO, hK⟩ := id hX
  obtain ⟨bmB, B, newId, initId, FB, hq, gC, kC, sC, tC⟩ := M.ex
  refine wpAny_Call_Name_kw (ld_glob I (hn.gl hO) gC ?_ hd)
  refine PySem.W.callWith_K0 I.kIn kC ?_
  show wpAny _ _ (call (.ref Cx) []) _ _ _
  obtain ⟨bm, N, nm, qn, bs, hdct, sn, sub, ab, col, dd, k0, k1, k2, k3, k5, mN, hC, hN, hni, T⟩ := exc_obj I.kIn hq
  refine wpAny_call_exc_subT FB T hC hN hni (fun h' e hm => ?_) (by show 0 ≤ sizeLine; exact Nat.zero_le _)
  exact mk_of I hm (raises_own sC tC) (k _ _ u none G H q (Grow.refl hE.kn) hE.st rfl) (I.hok.gone hm.new)
end
end L3
namespace L3
open PySem PySem.Spec PyProof.Rows L2
/-! ### try: .. except X as n: .. / except Y: .. -/
/-- the fields of an exception that is handled: known -/
def XdK (K : PySem.W.Frag) (G : Hp) (fs : List (Str × D)) : Option Addr → Prop
  | none => fs = []
  | some d => ∃ vs, G d = some (.xd vs) ∧ RpF K G fs vs
/-- the context of a try's body -/
abbrev SC.tr (C : SC) (wx : WX) (lnk : Hp → (Addr → Prop) → Hp → Hp → Prop) : SC := ⟨C.P, C.w, C.K, C.mg, C.base, C.N, ⟨C.nm, ⟨wx, lnk, none⟩, true⟩, C.k⟩
/-- the context of an except suite: at a the exception, of the class c, its dict at d, its fields fs -/
abbrev SC.su (C : SC) (a : Addr) (c : Value) (d : Option Addr) (fs : List (Str × D)) : SC := ⟨C.P, C.w, C.K, C.mg, C.base, C.N, ⟨C.nm, ⟨fun _ _ _ _ => False, fun _ _ G _ => XdK C.K G fs d, some (a, c, d)⟩, C.nx.fr⟩, C.k⟩
section
variable {C : SC} {A : Amb} {P : Post A}
/-- e.f, e the exception that is handled -/
theorem k_xf {E : NE} {u : A.U} {Φ : D → A.U → Prop} {e : Expr} {f : Str} {pos : Pos} {a Cx : Addr} {d : Option Addr} {fs : List (Str × D)} {dd : D} (T : XfC C.K Cx) (hno : PySem.W.findIn C.K (.ref Cx) f = some none) (hf : fs.lookup f = some dd)
    (h : EvK (C.su a (.ref Cx) d fs) A e E u fun d' u' => d' = .obj a ∧ Φ dd u') (hb : ∀ env, attributeBase e f env (eval e env) = eval e env := by intro _; rfl) : EvK (C.su a (.ref Cx) d fs) A (.Attribute e f pos) E u Φ := by
  intro G0 H0 G H σ he Q q X pins s hX I
  obtain ⟨j, nx, eC, hO, hK⟩ := id hX
  obtain ⟨X', oe, pn, eX, hz, hv⟩ := hK.hot a (.ref Cx) d (by have z := congrArg (fun c => c.nx.xs.hot) eC; exact z.symm)
  subst eX
  have eK : C.K = X'.K := congrArg SC.K eC
  refine (pe_xf (X := X') (a := a) (C := Cx) (oe := oe) (cls := .ref Cx) (d := d) (pn := pn) (n := f) (te := fun σ1 H1 Q1 => ∀ pins s, Inv (X'.suite a ((a, oe) :: pn)) pins σ1 H1 s → wpAny (model X'.prog X'.w) (X'.suite a ((a, oe) :: pn)).A (eval e X'.env) (EP (X'.suite a ((a, oe) :: pn)) pins σ1 Q1) (fun _ _ => False) s) (by rw [← eK]; exact T) (by rw [← eK]; exact hno) hz hv
    ⟨fun pins s σ1 H1 Q1 I1 q1 => q1 pins s I1⟩ (hb X'.env)).run pins s σ H Q I fun pins1 s1 I1 => ?_
  refine h G0 H0 G H σ he _ (fun d' u' v G' H' ⟨e1, p⟩ g st r => ?_) _ pins1 s1 hX I1
  subst e1
  simp only [Rp] at r
  subst r
  have lk : XdK C.K G' fs d := (he.go g st).ln _ G' H' (he.go g st).gr
  cases d with
  | none =>
    have z : fs = [] := lk
    rw [z] at hf; cases hf
  | some d =>
    obtain ⟨vs, h1, h2⟩ := lk
    obtain ⟨v, h3, h4⟩ := h2.look hf
    exact ⟨rfl, rfl, d, vs, v, rfl, g.gh _ _ h1, h3, q dd u' v G' H' p g st h4⟩
end
end L3
namespace L3
open PySem PySem.Spec PyProof.Rows L2
/-! ### a small heap of one's own beside the state -/
inductive HC where
  | lst (l : List D) | dK (l : List (Key × D)) | ins (C dx : Addr) (fs : List (Str × D)) | own (x : Addr)
abbrev Cells := Addr → Option HC
def Cells.no : Cells := fun _ => none
def Cells.put (h : Cells) (a : Addr) (c : HC) : Cells := fun b => if b = a then some c else h b
theorem Cells.put_same {h : Cells} {a : Addr} {c : HC} : h.put a c a = some c := if_pos rfl
theorem Cells.put_ne {h : Cells} {a b : Addr} {c : HC} (n : b ≠ a) : h.put a c b = h b := if_neg n
def HcOk (K : PySem.W.Frag) (G : Hp) : HC → HO → Prop
  | .lst l, o => ∃ xs, o = .lst xs ∧ RpA K G l xs
  | .dK l, o => ∃ xs, o = .dK xs ∧ RpK K G l xs
  | .ins C dx fs, o => ∃ vs, o = .ins C dx vs ∧ RpF K G fs vs
  | .own x, o => o = .own x
theorem HcOk.mono {K : PySem.W.Frag} {G G' : Hp} (e : Kn G G') : ∀ {c : HC} {o : HO}, HcOk K G c o → HcOk K G' c o
  | .lst _, _, ⟨xs, h, r⟩ => ⟨xs, h, r.mono e⟩
  | .dK _, _, ⟨xs, h, r⟩ => ⟨xs, h, r.mono e⟩
  | .ins _ _ _, _, ⟨vs, h, r⟩ => ⟨vs, h, r.mono e⟩
  | .own _, _, h => h
@[reducible] def hpA (K : PySem.W.Frag) (A : Amb) : Amb where
  U := A.U × Cells
  foot := fun u a => A.foot u.1 a ∨ u.2 a ≠ none
  st := fun u G H => A.st u.1 G H ∧ ∀ a c, u.2 a = some c → G a = none ∧ ¬ A.foot u.1 a ∧ ∃ o, H a = some o ∧ HcOk K G c o
  there := fun u G H h a f => by
    rcases f with f | f
    · exact A.there _ _ _ h.1 a f
    · obtain ⟨c, hc⟩ := Option.ne_none_iff_exists'.mp f
      obtain ⟨_, _, o, ho, _⟩ := h.2 a c hc
      rw [ho]; exact Option.some_ne_none _
  stay := fun u G H G' H' h k1 k2 k3 => ⟨A.stay _ _ _ _ _ h.1 k1 (fun a o f => k2 a o (.inl f)) (fun a f => k3 a (.inl f)), fun a c hc => by
    obtain ⟨g, n, o, ho, r⟩ := h.2 a c hc
    have f : A.foot u.1 a ∨ u.2 a ≠ none := .inr (by rw [hc]; exact Option.some_ne_none _)
    exact ⟨k3 a f g, n, o, k2 a o f ho, r.mono k1⟩⟩
section
variable {K : PySem.W.Frag} {A : Amb} {u : (hpA K A).U} {G H : Hp} {a : Addr} {c c' : HC} {o' : HO}
theorem hp_at (st : (hpA K A).st u G H) (hc : u.2 a = some c) : G a = none ∧ ¬ A.foot u.1 a ∧ ∃ o, H a = some o ∧ HcOk K G c o := st.2 a c hc
/-- a cell is changed -/
theorem hp_chg (st : (hpA K A).st u G H) (kn : Kn G H) (hc : u.2 a = some c) (hr : HcOk K G c' o') :
    Grow ((hpA K A).foot u) ((hpA K A).foot (u.1, u.2.put a c')) G H G (upd H a o') ∧ (hpA K A).st (u.1, u.2.put a c') G (upd H a o') := by
  obtain ⟨ga, na, o, ho, r⟩ := hp_at st hc
  have fa : (hpA K A).foot u a := .inr (by rw [hc]; exact Option.some_ne_none _)
  refine ⟨⟨Kn.refl G, fun b p e => ?_, fun b p n e => ?_, fun b e => ?_, fun b e n => absurd e n, fun b f => .inl ?_⟩, ?_, fun b d hd => ?_⟩
  · rw [upd_ne (ne_of_none e ga)]; exact kn b p e
  · rw [upd_ne (fun z => n (by rw [z]; exact fa))]; exact e
  · by_cases z : b = a
    · rw [z, upd_same]; exact Option.some_ne_none _
    · rw [upd_ne z]; exact e
  · rcases f with f | f
    · exact .inl f
    · by_cases z : b = a
      · rw [z]; exact fa
      · replace f : (u.2.put a c') b ≠ none := f
        rw [Cells.put_ne z] at f; exact .inr f
  · exact A.stay _ _ _ _ _ st.1 (Kn.refl G) (fun b p f e => by rw [upd_ne (fun z => na (by rw [← z]; exact f))]; exact e) fun b f e => e
  · by_cases z : b = a
    · subst z
      replace hd : (u.2.put b c') b = some d := hd
      rw [Cells.put_same] at hd
      cases hd
      exact ⟨ga, na, o', upd_same, hr⟩
    · replace hd : (u.2.put a c') b = some d := hd
      rw [Cells.put_ne z] at hd
      obtain ⟨g2, n2, p, hp, r2⟩ := st.2 b d hd
      exact ⟨g2, n2, p, by rw [upd_ne z]; exact hp, r2⟩
/-- nothing more is known of what came -/
theorem Grow.drop {foot : Addr → Prop} {G1 G' H' : Hp} (kn : Kn G H) (g : Grow noFoot noFoot G1 H G' H') : Grow foot foot G H G H' :=
  ⟨Kn.refl G, fun a o e => g.hh a o (fun z => z) (kn a o e), fun a o _ e => g.hh a o (fun z => z) e, g.th, fun a e n => absurd e n, fun _ => .inl⟩
theorem hp_drop {G1 G' H' : Hp} (st : (hpA K A).st u G H) (kn : Kn G H) (g : Grow noFoot noFoot G1 H G' H') : (hpA K A).st u G H' :=
  (hpA K A).stay u G H G H' st (Kn.refl G) (fun a o _ e => g.hh a o (fun z => z) e) fun a _ e => e
/-- a cell's list, seen as known -/
theorem hp_see {l : List D} (st : (hpA K A).st u G H) (kn : Kn G H) (hc : u.2 a = some (.lst l)) : ∃ xs, H a = some (.lst xs) ∧ RpA K G l xs ∧ Kn G (upd G a (.lst xs)) ∧ Kn (upd G a (.lst xs)) H ∧ Rp K (upd G a (.lst xs)) (.lst l) (.ref a) := by
  obtain ⟨ga, na, o, ho, xs, rfl, r⟩ := hp_at st hc
  have k1 : Kn G (upd G a (.lst xs)) := Kn.new ga
  refine ⟨xs, ho, r, k1, fun b p e => ?_, by simp only [Rp]; exact ⟨a, xs, rfl, upd_same, r.mono k1⟩⟩
  by_cases z : b = a
  · rw [z, upd_same] at e; rw [z, ho]; exact e
  · rw [upd_ne z] at e; exact kn b p e
end
section
variable {C : SC} {A : Amb} {E : NE} {u : (hpA C.K A).U} {Φ : D → (hpA C.K A).U → Prop} {Ψ : Bool → (hpA C.K A).U → Prop} {pos p apos spos pos' : Pos} {e a b o : Expr} {es : List Expr} {f m : Str} {P : Post (hpA C.K A)}
/-- e.f -/
theorem k_fldH (h : EvK C (hpA C.K A) e E u fun d u' => ∃ (q Cl dx : Addr) (fs : List (Str × D)) (x : D), d = .obj q ∧ u'.2 q = some (.ins Cl dx fs) ∧ Cls C.K Cl ∧ NoAttr C.K Cl f ∧ fs.lookup f = some x ∧ Φ x u')
    (hb : ∀ env, attributeBase e f env (eval e env) = eval e env := by intro _; rfl) : EvK C (hpA C.K A) (.Attribute e f pos) E u Φ := by
  refine EvK.of (tFld C.K (rE C e) f) (fun X hX => by obtain ⟨j, nm, rfl, hO, hK⟩ := id hX; exact pe_fld (pe_of hX e) (hb X.env)) fun G0 H0 G H σ he Q q => ?_
  refine h G0 H0 G H σ he _ fun d u1 v G1 H1 ⟨p, Cl, dx, fs, x, ed, hc, c, n, l, k⟩ g st r => ?_
  subst ed
  simp only [Rp] at r
  subst r
  obtain ⟨_, _, ob, ho, vs, rfl, rf⟩ := hp_at st hc
  obtain ⟨v, hv, rv⟩ := rf.look l
  exact ⟨p, Cl, dx, vs, v, rfl, ho, c, n, hv, q x u1 v G1 H1 k g st rv⟩
theorem RpF.put {K : PySem.W.Frag} {G : Hp} {d : D} {v : V} (r : Rp K G d v) : ∀ {fs : List (Str × D)} {vs : List (Str × V)}, RpF K G fs vs → ∃ fs' : List (Str × D), RpF K G fs' (putF f v vs) := fun {fs vs} h => by
  induction fs generalizing vs with
  | nil => cases h; exact ⟨[(f, d)], v, [], rfl, r, rfl⟩
  | cons x fs ih =>
    obtain ⟨y, r1, rfl, h1, h2⟩ := h
    obtain ⟨fs', h3⟩ := ih h2
    unfold putF
    split
    · exact ⟨(x.1, d) :: fs, v, r1, rfl, r, h2⟩
    · exact ⟨(x.1, x.2) :: fs', y, _, rfl, h1, h3⟩
theorem RpF.len {K : PySem.W.Frag} {G : Hp} : ∀ {fs : List (Str × D)} {vs : List (Str × V)}, RpF K G fs vs → vs.length = fs.length
  | [], vs, h => by cases h; rfl
  | x :: fs, vs, h => by obtain ⟨y, r1, rfl, h1, h2⟩ := h; rw [List.length_cons, List.length_cons, RpF.len h2]
/-- e.append(x), e a list of the heap -/
theorem s_appH (h : EvK C (hpA C.K A) e E u fun d u1 => ∃ (q : Addr) (l : List D), d = .obj q ∧ u1.2 q = some (.lst l) ∧ EvK C (hpA C.K A) a E u1 fun x u2 => ∃ l2, u2.2 q = some (.lst l2) ∧ l2.length < sizeLine ∧ P.nx E (u2.1, u2.2.put q (.lst (l2 ++ [x]))))
    (hs : ∀ env, starEach [a] env = [(false, eval a env)] := by intro _; rfl) (hl : (apos.endLine == pos.line) = true := by rfl)
    (hb : ∀ env, attributeBase e "append" env (eval e env) = eval e env := by intro _; rfl)
    (hw : ∀ env, swapsWith (.Call (.Attribute e "append" apos) [a] [] pos) none spos.line env = pure false := by intro _; rfl) :
    StK C (hpA C.K A) (.Expr (.Call (.Attribute e "append" apos) [a] [] pos) spos) E u P := by
  intro G0 H0 G H σ Ds he S X pins s hX I
  refine (ps_expr (pe_bm PySem.F.plainAttrs_list PySem.F.slot_list_append PySem.F.type_list_append mt_append (pe_of hX e) (pa_cons (pe_of hX a) pa_nil (hs X.env)) (hb X.env) (by rw [hs X.env]; rfl) hl (hs X.env) rfl) (hw X.env)).run pins s σ H Ds I ?_
  refine h G0 H0 G H σ he _ fun d u1 v G1 H1 ⟨q, l, ed, hc, k1⟩ g1 st1 r1 => ?_
  subst ed
  simp only [Rp] at r1
  subst r1
  obtain ⟨_, _, ob, ho, xs, rfl, rl⟩ := hp_at st1 hc
  refine ⟨.inl ⟨rfl, xs, .inl (.inl ho)⟩, ?_⟩
  refine k1 G0 H0 G1 H1 σ (he.go g1 st1) _ fun x u2 v2 G2 H2 ⟨l2, hc2, hz, k2⟩ g2 st2 r2 => ?_
  obtain ⟨_, _, ob, ho2, xs2, rfl, rl2⟩ := hp_at st2 hc2
  obtain ⟨g3, st3⟩ := hp_chg st2 g2.gh hc2 (c' := .lst (l2 ++ [x])) ⟨_, rfl, rl2.append (RpA.one r2)⟩
  exact ⟨q, xs2, v2, rfl, rfl, ho2, by rw [rl2.len]; exact hz, S.nx _ _ G2 _ σ k2 (((he.go g1 st1).go g2 st2).go g3 st3)⟩
/-- what a datum is, seen into the heap -/
def SeeH (h : Cells) (d d' : D) : Prop := d' = d ∨ ∃ (q : Addr) (l : List D), d = .obj q ∧ h q = some (.lst l) ∧ d' = .lst l
theorem see_rp {K : PySem.W.Frag} {u : (hpA K A).U} {G H : Hp} {d d' : D} {v : V} (st : (hpA K A).st u G H) (kn : Kn G H) (s : SeeH u.2 d d') (r : Rp K G d v) : ∃ G1, Kn G G1 ∧ Kn G1 H ∧ Rp K G1 d' v := by
  rcases s with rfl | ⟨q, l, rfl, hc, rfl⟩
  · exact ⟨G, Kn.refl G, kn, r⟩
  · simp only [Rp] at r
    subst r
    obtain ⟨xs, _, _, k1, k2, r⟩ := hp_see st kn hc
    exact ⟨_, k1, k2, r⟩
/-- a comparison, its left side a list of the heap -/
theorem t_cmpH {op : CmpOp} {g : D → D → (Bool → Prop) → Prop} (hs : OpS C (compareOp op) (toB g)) (h : EvK C (hpA C.K A) a E u fun da u1 => EvK C (hpA C.K A) b E u1 fun db u2 => ∃ da', SeeH u2.2 da da' ∧ g da' db fun k => Ψ k u2)
    (hm : behindInMarks op b = false) : EvT C (hpA C.K A) (.Compare a [op] [b] pos) E u Ψ := by
  refine EvT.of (tTest (tOp (rD C.K (toB g)) (rE C a) (rE C b))) (fun X hX => pt_cmpR (hs X hX) (pe_of hX a) (pe_of hX b) hm) fun G0 H0 G H σ he Q q => ?_
  refine h G0 H0 G H σ he _ fun da u1 v1 G1 H1 p1 g1 s1 r1 => ?_
  refine p1 G0 H0 G1 H1 σ (he.go g1 s1) _ fun db u2 v2 G2 H2 ⟨da', hsee, p2⟩ g2 s2 r2 => ?_
  obtain ⟨G3, k1, k2, r3⟩ := see_rp s2 g2.gh hsee (r1.mono g2.gg)
  refine ⟨G3, da', db, fun d => match d with | .bl k => Ψ k u2 | _ => False, k2, r3, r2.mono k1, p2, fun d v G' H' hd g3 rd => ?_⟩
  cases d with
  | bl k =>
    simp only [Rp] at rd
    subst rd
    exact ⟨k, rfl, q k u2 G2 H' hd ((g1.trans g2).trans (Grow.drop g2.gh g3)) (hp_drop s2 g2.gh g3)⟩
  | _ => exact hd.elim
end
section
variable {C : SC} {A : Amb} {G0 : Beg} {H0 G H : Hp} {E : NE} {σ : L2.St}
theorem hp_foot0 {K : PySem.W.Frag} {u : A.U} : (hpA K A).foot (u, Cells.no) = A.foot u := funext fun a => propext ⟨fun f => f.elim id fun z => absurd rfl z, .inl⟩
theorem Env.hp {u : A.U} (he : Env C A G0 H0 u G H E σ) : Env C (hpA C.K A) G0 H0 (u, Cells.no) G H E σ := by
  obtain ⟨α, h1, h2⟩ := he.ent
  exact ⟨by rw [hp_foot0]; exact he.gr, he.ln, ⟨he.st, fun a c z => nomatch z⟩, he.nd, α, fun x s m => let ⟨i, e, q⟩ := h1 x s m; ⟨i, e, by rw [hp_foot0]; exact q⟩, h2⟩
theorem Env.unhp {u : (hpA C.K A).U} (he : Env C (hpA C.K A) G0 H0 u G H E σ) : Env C A G0 H0 u.1 G H E σ := by
  obtain ⟨α, h1, h2⟩ := he.ent
  refine ⟨⟨he.gr.gg, he.gr.gh, he.gr.hh, he.gr.th, he.gr.fr, fun a f => he.gr.ff a (.inl f)⟩, he.ln, he.st.1, he.nd, α, fun x s m => ?_, h2⟩
  obtain ⟨i, e, q⟩ := h1 x s m
  refine ⟨i, e, ?_⟩
  cases s with
  | un => trivial
  | dat d => exact q
  | own l => exact ⟨q.1, q.2.1, q.2.2.1, fun z => q.2.2.2.1 (.inl z), q.2.2.2.2⟩
  | ownD l => exact ⟨q.1, q.2.1, q.2.2.1, fun z => q.2.2.2.1 (.inl z), q.2.2.2.2⟩
  | ownX R => exact ⟨q.1, q.2.1, q.2.2.1, fun z => q.2.2.2.1 (.inl z), q.2.2.2.2⟩
  | knX R => exact q
/-- from here on with a small heap -/
theorem r_heap {u : A.U} {sts : List Stmt} {P : Post A} (h : RunK C (hpA C.K A) sts E (u, Cells.no) { nx := fun E' u' => P.nx E' u'.1, rt := fun d u' => P.rt d u'.1, bk := fun E' u' => P.bk E' u'.1, ct := fun E' u' => P.ct E' u'.1 }) : RunK C A sts E u P := by
  intro G0 H0 G H σ Ds he S
  refine h G0 H0 G H σ Ds he.hp ⟨fun E u G H σ p he => S.nx E u.1 G H σ p he.unhp, fun E u G H σ p he => S.bk E u.1 G H σ p he.unhp, fun E u G H σ p he => S.ct E u.1 G H σ p he.unhp, fun d u v G H p g st r => S.rt d u.1 v G H p ⟨g.gg, g.gh, g.hh, g.th, g.fr, fun a f => ?_⟩ st.1 r⟩
  exact g.ff a (.inl f)
theorem XWish.hp {u : (hpA C.K A).U} {c : Value} {fs : List (Str × D)} (h : XWish C A c fs E u.1) : XWish C (hpA C.K A) c fs E u := by
  intro G0 H0 G H σ d he xd
  refine h G0 H0 G H σ d he.unhp ?_
  cases d with
  | none => exact xd
  | some d => obtain ⟨vs, h1, h2, h3, h4, h5⟩ := xd; exact ⟨vs, h1, h2, fun z => h3 (.inl z), h4, h5⟩
end
end L3
namespace L3
open PySem PySem.Spec PyProof.Rows L2
/-! ### texts: startswith, split, int(text), str(int) -/
section
variable {C : SC} {A : Amb} {E : NE} {u : A.U} {Φ : D → A.U → Prop} {pos p apos : Pos} {e o : Expr} {es : List Expr}
def strW : List D → (D → Prop) → Prop
  | [.int i], Ψ => i.natAbs.log2 < 1920 ∧ Ψ (.str (Str.ofString (toString i)))
  | _, _ => False
theorem str_ok : CallS C (.type "str") strW := by
  intro X hX pins s σ H xs us Q I rx ⟨G, ds, Ψ, kn, r, f, q⟩
  obtain ⟨d, rfl⟩ : ∃ d, ds = [d] := by
    rcases ds with _ | ⟨d, _ | ⟨d2, ds⟩⟩
    · exact f.elim
    · exact ⟨d, rfl⟩
    · cases d <;> exact f.elim
  cases d <;> try exact f.elim
  case int i =>
    obtain ⟨x, ex, r1⟩ := rpa1 r
    subst ex
    simp only [Rp] at r1
    subst r1
    exact call_str_int pins s σ H _ us Q I rx ⟨i, rfl, f.1, q _ _ G H f.2 (Grow.refl kn) (by simp only [Rp])⟩
end
/-! ### methods at hand -/
structure MethK (P : Program) (w : World) (K : PySem.W.Frag) (mg : Str → Option Value) (base : Heap) (k : Nat) (A : Amb) (Cl : Addr) (m : Str) (sem : Sem3 (hpA K A)) : Prop where
  ex : ∃ (fm : Addr) (fd : FuncData) (ps : List Str), Meth K Cl m fm ∧ Binds K fd ps [] ∧ FnG P w K mg base k fm fd ps (spD K (hpA K A) sem)
theorem MethK.mono {P : Program} {w : World} {K : PySem.W.Frag} {mg : Str → Option Value} {base : Heap} {j k : Nat} {A : Amb} {Cl : Addr} {m : Str} {sem : Sem3 (hpA K A)} (F : MethK P w K mg base j A Cl m sem) (h : j ≤ k) : MethK P w K mg base k A Cl m sem := by
  obtain ⟨f, fd, ps, a, b, G⟩ := F.ex
  exact ⟨f, fd, ps, a, b, G.mono h⟩
structure InitK (P : Program) (w : World) (K : PySem.W.Frag) (mg : Str → Option Value) (base : Heap) (k : Nat) (A : Amb) (x : Str) (Cl : Addr) (sem : Sem3 (hpA K A)) : Prop where
  ex : ∃ (fI : Addr) (fd : FuncData) (ps : List Str) (k0 : Nat), Mk K Cl fI ∧ Binds K fd ps [] ∧ k0 + 1 ≤ k ∧ mg x = some (.ref Cl) ∧ FnG P w K mg base k0 fI fd ps (spD K (hpA K A) sem)
theorem InitK.mono {P : Program} {w : World} {K : PySem.W.Frag} {mg : Str → Option Value} {base : Heap} {j k : Nat} {A : Amb} {x : Str} {Cl : Addr} {sem : Sem3 (hpA K A)} (F : InitK P w K mg base j A x Cl sem) (h : j ≤ k) : InitK P w K mg base k A x Cl sem := by
  obtain ⟨f, fd, ps, k0, a, b, z, g, G⟩ := F.ex
  exact ⟨f, fd, ps, k0, a, b, Nat.le_trans z h, g, G⟩
end L3
namespace L3
open PySem PySem.Spec PyProof.Rows L2
/-! ### a, b, c = e where one of the names is a cell's -/
/-! ### a, b = 0, 0: written constants are one tuple -/
end L3
namespace L3
open PySem PySem.Spec PyProof.Rows L2
/-! ### xs[::-1] of a list -/
end L3
namespace L3
open PySem PySem.Spec PyProof.Rows L2
/-! ### min(a, b) -/
end L3
namespace L3
open PySem PySem.Spec PyProof.Rows L2
/-! ### defs without the small heap, called beside it -/
section
variable {K : PySem.W.Frag} {A : Amb}
theorem hp_grow {m m' : A.U} {cs : Cells} {G H G' H' : Hp} (st : (hpA K A).st (m, cs) G H) (g : Grow (A.foot m) (A.foot m') G H G' H') : Grow ((hpA K A).foot (m, cs)) ((hpA K A).foot (m', cs)) G H G' H' :=
  ⟨g.gg, g.gh, fun a o n e => g.hh a o (fun z => n (.inl z)) e, g.th, g.fr, fun a f => by
    rcases f with f | f
    · rcases g.ff a f with z | z
      · exact .inl (.inl z)
      · exact .inr z
    · exact .inl (.inr f)⟩
theorem hp_stay {m m' : A.U} {cs : Cells} {G H G' H' : Hp} (st : (hpA K A).st (m, cs) G H) (g : Grow (A.foot m) (A.foot m') G H G' H') (st' : A.st m' G' H') : (hpA K A).st (m', cs) G' H' :=
  ⟨st', fun a c hc => by
    obtain ⟨h1, h2, o, h3, h4⟩ := st.2 a c hc
    refine ⟨?_, fun z => ?_, o, g.hh a o h2 h3, h4.mono g.gg⟩
    · cases w : G' a with
      | none => rfl
      | some p =>
        have z := g.fr a h1 (by rw [w]; exact Option.some_ne_none _)
        rw [h3] at z; cases z
    · rcases g.ff a z with z | z
      · exact h2 z
      · rw [h3] at z; cases z⟩
def hpS (sem : Sem3 A) : Sem3 (hpA K A) := fun ds u Φ => sem ds u.1 fun d m' => Φ d (m', u.2)
def hpX (sem : SemX A) : SemX (hpA K A) := fun ds u Φ Ψ => sem ds u.1 (fun d m' => Φ d (m', u.2)) fun c fs m' => Ψ c fs (m', u.2)
variable {P : Program} {w : World} {mg : Str → Option Value} {base : Heap} {k : Nat} {f : Addr} {fd : FuncData} {ps : List Str} {x : Str}
theorem FnG.hp {sem : Sem3 A} (F : FnG P w K mg base k f fd ps (spD K A sem)) : FnG P w K mg base k f fd ps (spD K (hpA K A) (hpS sem)) := by
  have key : ∀ vs H Q E, spD K (hpA K A) (hpS (K := K) sem) vs H Q E → spD K A sem vs H Q E := by
    rintro vs H Q E ⟨G, ds, ⟨m, cs⟩, Φ, kn, st, r, h, q⟩
    exact ⟨G, ds, m, fun d m' => Φ d (m', cs), kn, st.1, r, h, fun d m' v G' H' p g st' r' => q d (m', cs) v G' H' p (hp_grow st g) (hp_stay st g st') r'⟩
  exact ⟨fun vs H Q E h => F.len vs H Q E (key _ _ _ _ h), fun A' outer s H args us vs Q hr hg he hb r h => F.run A' outer s H args us vs Q hr hg he hb r (key _ _ _ _ h)⟩
theorem FnX.hp {sem : SemX A} (F : FnX P w K mg base k f fd ps (spX K A sem)) : FnX P w K mg base k f fd ps (spX K (hpA K A) (hpX sem)) := by
  have key : ∀ vs H Q E, spX K (hpA K A) (hpX (K := K) sem) vs H Q E → spX K A sem vs H Q E := by
    rintro vs H Q E ⟨G, ds, ⟨m, cs⟩, Φ, Ψ, kn, st, r, h, q, qx⟩
    refine ⟨G, ds, m, fun d m' => Φ d (m', cs), fun c fs m' => Ψ c fs (m', cs), kn, st.1, r, h, fun d m' v G' H' p g st' r' => q d (m', cs) v G' H' p (hp_grow st g) (hp_stay st g st') r', fun c fs m' x G' H' p g st' xd => qx c fs (m', cs) x G' H' p (hp_grow st g) (hp_stay st g st') ?_⟩
    cases x with
    | none => exact xd
    | some d =>
      obtain ⟨vs', h1, h2, h3, h4, h5⟩ := xd
      refine ⟨vs', h1, h2, fun z => ?_, h4, h5⟩
      rcases z with z | z
      · exact h3 z
      · obtain ⟨c', hc⟩ := Option.ne_none_iff_exists'.mp z
        obtain ⟨_, _, o, ho, _⟩ := st.2 d c' hc
        rw [ho] at h4; cases h4
  exact ⟨fun vs H Q E h => F.len vs H Q E (key _ _ _ _ h), fun A' outer s H args us vs Q E hr hg he hb r h => F.run A' outer s H args us vs Q E hr hg he hb r (key _ _ _ _ h)⟩
theorem DefK.hp {sem : Sem3 A} (F : DefK P w K mg base k A x sem) : DefK P w K mg base k (hpA K A) x (hpS sem) := by
  obtain ⟨f, fd, ps, a, b, c, G⟩ := F.ex
  exact ⟨f, fd, ps, a, b, c, G.hp⟩
theorem DefX.hp {sem : SemX A} (F : DefX P w K mg base k A x sem) : DefX P w K mg base k (hpA K A) x (hpX sem) := by
  obtain ⟨f, fd, ps, a, b, c, G⟩ := F.ex
  exact ⟨f, fd, ps, a, b, c, G.hp⟩
end
/-! ### methods that raise -/
structure MethX (P : Program) (w : World) (K : PySem.W.Frag) (mg : Str → Option Value) (base : Heap) (k : Nat) (A : Amb) (Cl : Addr) (m : Str) (sem : SemX (hpA K A)) : Prop where
  ex : ∃ (fm : Addr) (fd : FuncData) (ps : List Str), Meth K Cl m fm ∧ Binds K fd ps [] ∧ FnX P w K mg base k fm fd ps (spX K (hpA K A) sem)
theorem MethX.mono {P : Program} {w : World} {K : PySem.W.Frag} {mg : Str → Option Value} {base : Heap} {j k : Nat} {A : Amb} {Cl : Addr} {m : Str} {sem : SemX (hpA K A)} (F : MethX P w K mg base j A Cl m sem) (h : j ≤ k) : MethX P w K mg base k A Cl m sem := by
  obtain ⟨f, fd, ps, a, b, G⟩ := F.ex
  exact ⟨f, fd, ps, a, b, G.mono h⟩
/-! ### objects made by an __init__ with values that may raise -/
structure InitX (P : Program) (w : World) (K : PySem.W.Frag) (mg : Str → Option Value) (base : Heap) (k : Nat) (A : Amb) (x : Str) (Cl : Addr) (sem : SemX (hpA K A)) : Prop where
  ex : ∃ (fI : Addr) (fd : FuncData) (ps : List Str) (k0 : Nat), Mk K Cl fI ∧ Binds K fd ps [] ∧ k0 + 1 ≤ k ∧ mg x = some (.ref Cl) ∧ FnX P w K mg base k0 fI fd ps (spX K (hpA K A) sem)
theorem InitX.mono {P : Program} {w : World} {K : PySem.W.Frag} {mg : Str → Option Value} {base : Heap} {j k : Nat} {A : Amb} {x : Str} {Cl : Addr} {sem : SemX (hpA K A)} (F : InitX P w K mg base j A x Cl sem) (h : j ≤ k) : InitX P w K mg base k A x Cl sem := by
  obtain ⟨f, fd, ps, k0, a, b, z, g, G⟩ := F.ex
  exact ⟨f, fd, ps, k0, a, b, Nat.le_trans z h, g, G⟩
end L3
namespace L3
open PySem PySem.Spec PyProof.Rows L2
/-! ### len(o), o with a __len__ of its own -/
end L3
namespace L3
open PySem PySem.Spec PyProof.Rows L2
/-! ### defs with defaults that may raise -/
end L3
namespace L3
open PySem PySem.Spec PyProof.Rows L2
/-! ### o[i], o[i] = v, x += v: o with a method of its own that may raise -/
/-! ### C.m(e, ..), m a def of the class C -/
end L3
namespace L3
open PySem PySem.Spec PyProof.Rows L2
/-! ### lists of the heap: made, read, cut, popped -/
section
variable {C : SC} {A : Amb} {E : NE} {u : (hpA C.K A).U} {Φ : D → (hpA C.K A).U → Prop} {Ψ : Bool → (hpA C.K A).U → Prop} {pos p p2 apos spos cpos q1 : Pos} {e a b o : Expr}
/-- a new list becomes a cell -/
theorem hp_cell {l : List D} {u u1 : (hpA C.K A).U} {z : Addr} {xs : List V} {G H G1 H1 : Hp} (g1 : Grow ((hpA C.K A).foot u) ((hpA C.K A).foot u1) G H G1 H1) (st1 : (hpA C.K A).st u1 G1 H1) (z1 : H z = none) (z2 : G1 z = none) (z3 : ¬ (hpA C.K A).foot u1 z) (z4 : H1 z = some (.lst xs)) (rl : RpA C.K G1 l xs) :
    u1.2 z = none ∧ Grow ((hpA C.K A).foot u) ((hpA C.K A).foot (u1.1, u1.2.put z (.lst l))) G H G1 H1 ∧ (hpA C.K A).st (u1.1, u1.2.put z (.lst l)) G1 H1 := by
  have uz : u1.2 z = none := by
    cases q : u1.2 z with
    | none => rfl
    | some c => exact absurd (.inr (by rw [q]; exact Option.some_ne_none _)) z3
  have na : ¬ A.foot u1.1 z := fun w => z3 (.inl w)
  refine ⟨uz, ⟨g1.gg, g1.gh, g1.hh, g1.th, g1.fr, fun b w => ?_⟩, st1.1, fun b d hd => ?_⟩
  · rcases w with w | w
    · exact g1.ff b (.inl w)
    · by_cases e : b = z
      · rw [e]; exact .inr z1
      · replace w : (u1.2.put z (.lst l)) b ≠ none := w
        rw [Cells.put_ne e] at w; exact g1.ff b (.inr w)
  · by_cases e : b = z
    · subst e
      replace hd : (u1.2.put b (.lst l)) b = some d := hd
      rw [Cells.put_same] at hd
      cases hd
      exact ⟨z2, na, _, z4, xs, rfl, rl⟩
    · replace hd : (u1.2.put z (.lst l)) b = some d := hd
      rw [Cells.put_ne e] at hd
      exact st1.2 b d hd
theorem k_newH (h : EvN C (hpA C.K A) e E u fun l u1 => ∀ z : Addr, u1.2 z = none → Φ (.obj z) (u1.1, u1.2.put z (.lst l))) : EvK C (hpA C.K A) e E u Φ := by
  intro G0 H0 G H σ hE Q q
  refine h G0 H0 G H σ hE _ fun l u1 z xs G1 H1 h1 g1 st1 z1 z2 z3 z4 rl => ?_
  obtain ⟨uz, gr, st2⟩ := hp_cell g1 st1 z1 z2 z3 z4 rl
  exact q _ _ _ G1 H1 (h1 z uz) gr st2 (by simp only [Rp])
end
/-! ### o.m(), the parameters behind filled by defaults -/
structure MethD (P : Program) (w : World) (K : PySem.W.Frag) (mg : Str → Option Value) (base : Heap) (k : Nat) (A : Amb) (Cl : Addr) (m : Str) (dd : List D) (sem : SemX (hpA K A)) : Prop where
  ex : ∃ (fm : Addr) (fd : FuncData) (ps : List Str) (us0 : List Value) (vs0 : List V), Meth K Cl m fm ∧ Binds K fd ps us0 ∧ Vals vs0 us0 ∧ (∀ G, RpA K G dd vs0) ∧ FnX P w K mg base k fm fd ps (spX K (hpA K A) sem)
theorem MethD.mono {P : Program} {w : World} {K : PySem.W.Frag} {mg : Str → Option Value} {base : Heap} {j k : Nat} {A : Amb} {Cl : Addr} {m : Str} {dd : List D} {sem : SemX (hpA K A)} (F : MethD P w K mg base j A Cl m dd sem) (h : j ≤ k) : MethD P w K mg base k A Cl m dd sem := by
  obtain ⟨f, fd, ps, us0, vs0, a, b, c, d, G⟩ := F.ex
  exact ⟨f, fd, ps, us0, vs0, a, b, c, d, G.mono h⟩
end L3
namespace L3
open PySem PySem.Spec PyProof.Rows L2
/-! ### a loop over zip of three -/
end L3
namespace L3
open PySem PySem.Spec PyProof.Rows L2
/-! ### dicts: new ones, locked ones, cells -/
/-! ### sorted of a dict with int keys, of any size -/
end L3
namespace L3
open PySem PySem.Spec PyProof.Rows L2
/-! ### dict cells of the small heap -/
end L3
namespace L3
open PySem PySem.Spec PyProof.Rows L2
/-! ### a def with a small heap of its own, whose answer is a list of its dicts -/
end L3
/-! L3x2: a, b = a datum, a new list of one's own, where a is a cell's name. -/
namespace L3
open PySem PySem.Spec PyProof.Rows L2
end L3
/-! a tuple times a number that may be 0 -/
namespace L3
open PySem PySem.Spec PyProof.Rows L2
end L3
namespace L3
open PySem PySem.Spec PyProof.Rows L2
/-! ### except (X, Y): a clause for two classes -/
end L3
namespace L3
open PySem PySem.Spec PyProof.Rows L2
/-! ### o.m(x=e): a method whose last parameter is given by its name -/
def BindsW (K : PySem.W.Frag) (fd : FuncData) (ps : List Str) (x : Str) : Prop := ∀ (s : Shared) (us : List Value) (v : Value), K.In s.heap → (us ++ [v]).length = ps.length → BindsTo s fd ⟨us, [(x, v)]⟩ (ps.zip (us ++ [v]))
structure MethW (P : Program) (w : World) (K : PySem.W.Frag) (mg : Str → Option Value) (base : Heap) (k : Nat) (A : Amb) (Cl : Addr) (m x : Str) (sem : SemX (hpA K A)) : Prop where
  ex : ∃ (fm : Addr) (fd : FuncData) (ps : List Str), Meth K Cl m fm ∧ BindsW K fd ps x ∧ FnX P w K mg base k fm fd ps (spX K (hpA K A) sem)
theorem MethW.mono {P : Program} {w : World} {K : PySem.W.Frag} {mg : Str → Option Value} {base : Heap} {j k : Nat} {A : Amb} {Cl : Addr} {m x : Str} {sem : SemX (hpA K A)} (F : MethW P w K mg base j A Cl m x sem) (h : j ≤ k) : MethW P w K mg base k A Cl m x sem := by
  obtain ⟨f, fd, ps, a, b, G⟩ := F.ex
  exact ⟨f, fd, ps, a, b, G.mono h⟩
end L3
namespace L3
open PySem PySem.Spec PyProof.Rows L2
/-! ### C(e, ..), the last parameter by its default, an empty tuple -/
structure InitD (P : Program) (w : World) (K : PySem.W.Frag) (mg : Str → Option Value) (base : Heap) (k : Nat) (A : Amb) (x : Str) (Cl : Addr) (sem : SemX (hpA K A)) : Prop where
  ex : ∃ (fI TE : Addr) (fd : FuncData) (ps : List Str) (k0 : Nat), Mk K Cl fI ∧ Binds K fd ps [.ref TE] ∧ TupK K TE [] ∧ k0 + 1 ≤ k ∧ mg x = some (.ref Cl) ∧ FnX P w K mg base k0 fI fd ps (spX K (hpA K A) sem)
theorem InitD.mono {P : Program} {w : World} {K : PySem.W.Frag} {mg : Str → Option Value} {base : Heap} {j k : Nat} {A : Amb} {x : Str} {Cl : Addr} {sem : SemX (hpA K A)} (F : InitD P w K mg base j A x Cl sem) (h : j ≤ k) : InitD P w K mg base k A x Cl sem := by
  obtain ⟨f, t, fd, ps, k0, a, b, e, z, g, G⟩ := F.ex
  exact ⟨f, t, fd, ps, k0, a, b, e, Nat.le_trans z h, g, G⟩
end L3
namespace L3
open PySem PySem.Spec PyProof.Rows L2
/-! ### f-strings, s.partition(t), s.replace of written texts -/
end L3
namespace L3
open PySem PySem.Spec PyProof.Rows L2
/-! ### "..", o.replace("..", "..") -/
/-! ### str(number or text) -/
end L3
namespace L3
open PySem PySem.Spec PyProof.Rows L2
/-! ### lists of the heap changed in place: o[a] = e, o[a], o[b] = x, y -/
end L3
namespace L3
open PySem PySem.Spec PyProof.Rows L2
/-! ### errors held as values -/
/-- an error that is not raised: its class, and its one field -/
inductive XC where
  | bare (C : Addr) | fld (C : Addr) (f : Str) (d : D)
def XC.cls : XC → Addr
  | .bare C => C
  | .fld C _ _ => C
def XcOk (K : PySem.W.Frag) (G : Hp) (a : Addr) : XC → Prop
  | .bare C => G a = some (ExO (.ref C) a)
  | .fld C f d => ∃ (dx : Addr) (v : V), G a = some (exo a C (some dx)) ∧ G dx = some (exd dx [(f, v)]) ∧ Rp K G d v
theorem XcOk.mono {K : PySem.W.Frag} {G G' : Hp} {a : Addr} (e : Kn G G') : ∀ {c : XC}, XcOk K G a c → XcOk K G' a c
  | .bare _, h => e _ _ h
  | .fld _ _ _, ⟨dx, v, h1, h2, r⟩ => ⟨dx, v, e _ _ h1, e _ _ h2, r.mono e⟩
theorem XcOk.some {K : PySem.W.Frag} {G : Hp} {a : Addr} : ∀ {c : XC}, XcOk K G a c → ∃ o, G a = some o
  | .bare _, h => ⟨_, h⟩
  | .fld _ _ _, ⟨_, _, h1, _⟩ => ⟨_, h1⟩
abbrev XCells := Addr → Option XC
def XCells.no : XCells := fun _ => none
def XCells.put (h : XCells) (a : Addr) (c : XC) : XCells := fun b => if b = a then some c else h b
theorem XCells.put_same {h : XCells} {a : Addr} {c : XC} : h.put a c a = some c := if_pos rfl
theorem XCells.put_ne {h : XCells} {a b : Addr} {c : XC} (n : b ≠ a) : h.put a c b = h b := if_neg n
@[reducible] def exA (K : PySem.W.Frag) (A : Amb) : Amb where
  U := A.U × XCells
  foot := fun u a => A.foot u.1 a
  st := fun u G H => A.st u.1 G H ∧ ∀ a c, u.2 a = some c → XcOk K G a c
  there := fun u G H h a f => A.there _ _ _ h.1 a f
  stay := fun u G H G' H' h k1 k2 k3 => ⟨A.stay _ _ _ _ _ h.1 k1 k2 k3, fun a c hc => (h.2 a c hc).mono k1⟩
section
variable {K : PySem.W.Frag} {A : Amb} {u : (exA K A).U} {G H : Hp} {a : Addr} {c : XC}
theorem xc_put (st : (exA K A).st u G H) (h : XcOk K G a c) : (exA K A).st (u.1, u.2.put a c) G H := by
  refine ⟨st.1, fun b d hd => ?_⟩
  by_cases z : b = a
  · subst z
    replace hd : (u.2.put b c) b = some d := hd
    rw [XCells.put_same] at hd
    cases hd
    exact h
  · replace hd : (u.2.put a c) b = some d := hd
    rw [XCells.put_ne z] at hd
    exact st.2 b d hd
end
/-- an ambient that holds errors -/
structure XL (K : PySem.W.Frag) (Bx : Amb) where
  get : Bx.U → XCells
  put : Bx.U → Addr → XC → Bx.U
  ok : ∀ {u : Bx.U} {G H : Hp} {a : Addr} {c : XC}, Bx.st u G H → get u a = some c → XcOk K G a c
  st : ∀ {u : Bx.U} {G H : Hp} {a : Addr} {c : XC}, Bx.st u G H → XcOk K G a c → Bx.st (put u a c) G H
  ft : ∀ (u : Bx.U) (a : Addr) (c : XC), Bx.foot (put u a c) = Bx.foot u
  gp : ∀ (u : Bx.U) (a : Addr) (c : XC), get (put u a c) = (get u).put a c
theorem XL.fresh {K : PySem.W.Frag} {Bx : Amb} (L : XL K Bx) {u : Bx.U} {G H : Hp} {a : Addr} (st : Bx.st u G H) (kn : Kn G H) (hn : H a = none) : L.get u a = none := by
  cases q : L.get u a with
  | none => rfl
  | some c =>
    obtain ⟨o, e⟩ := (L.ok st q).some
    rw [kn _ _ e] at hn
    cases hn
/-- these errors are held -/
def Held {K : PySem.W.Frag} {B : Amb} (L : XL K B) (u : B.U) (l : List (Addr × XC)) : Prop := ∀ p ∈ l, L.get u p.1 = some p.2
theorem Held.nil {K : PySem.W.Frag} {B : Amb} {L : XL K B} {u : B.U} : Held L u [] := nofun
theorem Held.snoc {K : PySem.W.Frag} {B : Amb} {L : XL K B} {u : B.U} {l : List (Addr × XC)} (h : Held L u l) {a : Addr} (ha : L.get u a = none) (c : XC) : Held L (L.put u a c) (l ++ [(a, c)]) := fun p hp => by
  rw [L.gp]
  rcases List.mem_append.mp hp with hp | hp
  · have := h p hp
    rw [XCells.put_ne (fun e => by rw [e, ha] at this; cases this)]; exact this
  · rw [List.mem_singleton.mp hp]; exact XCells.put_same
def hpL {K : PySem.W.Frag} {A : Amb} : XL K (hpA K (exA K A)) where
  get := fun u => u.1.2
  put := fun u a c => ((u.1.1, u.1.2.put a c), u.2)
  ok := fun st h => st.1.2 _ _ h
  st := fun st h => ⟨xc_put st.1 h, st.2⟩
  ft := fun _ _ _ => rfl
  gp := fun _ _ _ => rfl
section
variable {C : SC} {Bx : Amb} {E : NE} {u : Bx.U} {Φ : D → Bx.U → Prop} {pos p p2 : Pos} {e : Expr} {x f : Str} {Cx : Addr}
/-- C(e) as a value -/
theorem k_mkV [hh : Cold C] (L : XL C.K Bx) (M : MkI C.P C.w C.K C.mg C.base C.k x Cx f) (hn : Nm C.nm x .globalImplicit) (h : EvK C Bx e E u fun d u' => ∀ a : Addr, L.get u' a = none → Φ (.obj a) (L.put u' a (.fld Cx f d)))
    (hd : (x == ("__debug__" : Str)) = false := by decide +kernel) (he : ∀ env, starEach [e] env = (false, eval e env) :: starEach [] env := by intro _; rfl) : EvK C Bx (.Call (.Name x p) [e] [] pos) E u Φ := by
  intro G0 H0 G H σ hE Q q X pins s hX I
  obtain ⟨j, nx, rfl, hO, hK⟩ := id hX
  obtain ⟨bmB, B, newId, initId, fI, fd, k0, hk, T, FB, hno, iC, tI, hb, F⟩ := M.ex
  have hroom : Room (k0 + 1) X.A := (hK.room hh.h).mono hk
  refine wpAny_Call_Name_kw (ld_glob I (hn.gl hO) T.gC ?_ hd)
  refine PySem.W.callWith_K (h₀ := X.base) I.ok.mod.kin T.kC (thn ((pa_cons (pe_of hX e) pa_nil (he X.env)).run pos pins s σ H (fun vs H1 => ∃ d u1 v G1, vs = [v] ∧ (∀ a : Addr, L.get u1 a = none → Φ (.obj a) (L.put u1 a (.fld Cx f d))) ∧ Grow (Bx.foot u) (Bx.foot u1) G H G1 H1 ∧ Bx.st u1 G1 H1 ∧ Rp X.K G1 d v) I ?_) fun us s1 ⟨vs, H1, I1, r1, d, u1, v, G1, ev, hΘ, g1, st1, rd⟩ => ⟨I1.kIn, ?_⟩) (he X.env) rfl
  · exact h G0 H0 G H σ hE _ fun d u1 v G1 H1 p g st r => ⟨d, u1, v, G1, rfl, p, g, st, r⟩
  subst ev
  show wpAny _ _ (call (.ref Cx) us) _ _ _
  obtain ⟨hp, g, dr, tk, os⟩ := s1
  obtain ⟨nm, N, qn, bs, bm, hdct, sn, sub, ab, col, dd, k0, k1, k2, k3, k5, hC, hT⟩ := T.obj I1
  have hsz : hp.objs.size ≤ hp.objs.size + 1 := Nat.le_succ _
  have hnew : H1 (hp.objs.size + 1) = none := I1.hok.fresh hsz
  have kk : ∀ b o, hp.get? b = some o → ((hp.push (PySem.W.kdv_tup us)).push (PySem.HandSPX.excO Cx hp.objs.size)).get? b = some o := fun b o w => Heap.get?_push_of_some _ (Heap.get?_push_of_some _ w)
  have hget : ((hp.push (PySem.W.kdv_tup us)).push (PySem.HandSPX.excO Cx hp.objs.size)).get? (hp.objs.size + 1) = some (PySem.HandSPX.excO Cx hp.objs.size) := by heap_get
  have I2 : Inv X pins σ (upd H1 (hp.objs.size + 1) (exo (hp.objs.size + 1) Cx none)) ⟨(hp.push (PySem.W.kdv_tup us)).push (PySem.HandSPX.excO Cx hp.objs.size), g, dr, tk, os⟩ := I1.laid (t' := tk) kk hsz (exo_ok hget)
  have hus : us.length ≤ sizeLine := by
    rw [← Paired.length r1, sizeLine_eq]; show 1 ≤ 16777216; decide
  have hl : (Value.ref (hp.objs.size + 1) :: us).length = (["self", f] : List Str).length := by
    rw [List.length_cons, ← Paired.length r1]; rfl
  have r2 : Vals [V.ref (hp.objs.size + 1), v] (Value.ref (hp.objs.size + 1) :: us) := .cons rfl r1
  have hb' := hb _ (Value.ref (hp.objs.size + 1) :: us) I2.kIn (by rw [List.append_nil]; exact hl)
  rw [List.append_nil] at hb'
  have fin : spInit Cx f [V.ref (hp.objs.size + 1), v] (upd H1 (hp.objs.size + 1) (exo (hp.objs.size + 1) Cx none)) (fun z H2 => z = .non ∧ ∃ dx : Addr, H1 dx = none ∧ dx ≠ hp.objs.size + 1 ∧ H2 = upd (upd (upd H1 (hp.objs.size + 1) (exo (hp.objs.size + 1) Cx none)) dx (exd dx [(f, v)])) (hp.objs.size + 1) (exo (hp.objs.size + 1) Cx (some dx))) (fun _ _ _ => False) :=
    ⟨_, v, rfl, upd_same, fun dx n ne => ⟨rfl, dx, by rw [upd_ne ne] at n; exact n, ne, rfl⟩⟩
  refine wpAny_call (PySem.HandSPX.call_own FB hT hC (PySem.W.looks_findIn I1.kIn iC) (fun self => PySem.W.bind_fn I1.kIn self tI) hus
    (codeAny_mono (F.run _ X.stack _ _ ⟨Value.ref (hp.objs.size + 1) :: us, []⟩ (Value.ref (hp.objs.size + 1) :: us) _ _ (fun _ _ _ => False) (hroom.make Cx us []) (I2.env0.make Cx us []) hb' r2 fin) fun r s' hq => ?_))
  cases r with
  | error er => obtain ⟨_, _, _, _, _, _, _, _, _, _, _, _, z⟩ := hq; exact z.elim
  | ok fl =>
    cases fl with
    | next => exact hq.elim
    | brk => exact hq.elim
    | cont => exact hq.elim
    | ret w =>
      obtain ⟨z, H2, I3, rv, ez, dx, nd, dne, eH⟩ := I2.after hq
      subst ez
      refine ⟨rv, ?_⟩
      have same : H2 = upd (upd H1 dx (exd dx [(f, v)])) (hp.objs.size + 1) (exo (hp.objs.size + 1) Cx (some dx)) := funext fun b => by
        rw [eH]
        by_cases hb1 : b = hp.objs.size + 1
        · rw [hb1, upd_same, upd_same]
        · rw [upd_ne hb1, upd_ne hb1]
          by_cases hb2 : b = dx
          · rw [hb2, upd_same, upd_same]
          · rw [upd_ne hb2, upd_ne hb2, upd_ne hb1]
      rw [same] at I3
      have ga : (upd H1 dx (exd dx [(f, v)])) (hp.objs.size + 1) = none := by rw [upd_ne dne.symm]; exact hnew
      have gr1 : Grow noFoot noFoot G1 H1 (upd G1 dx (exd dx [(f, v)])) (upd H1 dx (exd dx [(f, v)])) := Grow.new g1.gh nd
      have gr2 : Grow noFoot noFoot _ _ (upd (upd G1 dx (exd dx [(f, v)])) (hp.objs.size + 1) (exo (hp.objs.size + 1) Cx (some dx))) (upd (upd H1 dx (exd dx [(f, v)])) (hp.objs.size + 1) (exo (hp.objs.size + 1) Cx (some dx))) := Grow.new gr1.gh ga
      have gr := gr1.trans gr2
      have st2 := Bx.grow st1 gr
      have st3 := L.st (a := hp.objs.size + 1) (c := .fld Cx f d) st2 ⟨dx, v, upd_same, by rw [upd_ne dne]; exact upd_same, rd.mono gr.gg⟩
      exact ⟨.ref (hp.objs.size + 1), _, I3, rfl, q _ _ _ _ _ (hΘ _ (L.fresh st1 g1.gh hnew)) (by rw [L.ft]; exact g1.trans gr.weak) st3 (by simp only [Rp])⟩
/-- C() as a value -/
theorem k_mkV0 [hh : Cold C] (L : XL C.K Bx) (M : MkP0 C.K C.mg x Cx) (hn : Nm C.nm x .globalImplicit) (h : ∀ a : Addr, L.get u a = none → Φ (.obj a) (L.put u a (.bare Cx))) (hd : (x == ("__debug__" : Str)) = false := by decide +kernel) : EvK C Bx (.Call (.Name x p) [] [] pos) E u Φ := by
  intro G0 H0 G H σ hE Q k X pins s hX I
  obtain ⟨j, nx, rfl, hO, hK⟩ := id hX
  obtain ⟨bmB, B, newId, initId, FB, hq, gC, kC, sC, tC⟩ := M.ex
  refine wpAny_Call_Name_kw (ld_glob I (hn.gl hO) gC ?_ hd)
  refine PySem.W.callWith_K0 I.kIn kC ?_
  show wpAny _ _ (call (.ref Cx) []) _ _ _
  obtain ⟨bm, N, nm, qn, bs, hdct, sn, sub, ab, col, dd, k0, k1, k2, k3, k5, mN, hC, hN, hni, T⟩ := exc_obj I.kIn hq
  refine wpAny_call_exc_subT FB T hC hN hni (fun h' a hm => ?_) (by show 0 ≤ sizeLine; exact Nat.zero_le _)
  have hna : H a = none := I.hok.gone hm.new
  obtain ⟨t, ht, _, _⟩ := hm.there
  have gr : Grow noFoot noFoot G H (upd G a (ExO (.ref Cx) a)) (upd H a (ExO (.ref Cx) a)) := Grow.new hE.kn hna
  have st2 := Bx.grow hE.st gr
  have st3 := L.st (a := a) (c := .bare Cx) st2 (show XcOk X.K _ a (.bare Cx) from upd_same)
  exact ⟨.ref a, upd H a (ExO (.ref Cx) a), I.laidN hm.keeps hm.new hna (exO_ok ht ⟨rfl, rfl⟩ rfl rfl rfl (show 4 < 6 by decide)), rfl, k _ _ _ _ _ (h a (L.fresh hE.st hE.kn hna)) (by rw [L.ft]; exact gr.weak) st3 (by simp only [Rp])⟩
end
end L3
namespace L3
open PySem PySem.Spec PyProof.Rows L2
/-! ### errors held as values: isinstance, fields; classes as values, their fields -/
/-- the error's object in the heap -/
theorem xc_inst {X : Cx} {pins : List (Addr × Obj)} {σ : L2.St} {G H : Hp} {s : Shared} {a : Addr} {c : XC} (I : Inv X pins σ H s) (kn : Kn G H) (h : XcOk X.K G a c) : ∃ oe od, PySem.W.InstAt s.heap a oe c.cls od := by
  cases c with
  | bare C =>
    obtain ⟨⟨oe, vs, ho, hz, hd, _⟩, _⟩ := I.hok a _ (kn _ _ h)
    obtain ⟨oc, od, oda, osl⟩ := oe
    obtain ⟨h1, h2⟩ := hz
    dsimp only at h1 h2 hd
    subst h1 h2 hd
    exact ⟨_, none, ho, rfl, rfl, trivial⟩
  | fld C f d =>
    obtain ⟨dx, v, h1, h2, _⟩ := h
    obtain ⟨t1, ho⟩ := exo_at I.hok (kn _ _ h1)
    obtain ⟨mA, hns, _⟩ := exd_at I.hok (kn _ _ h2)
    obtain ⟨od, hod, _⟩ := lookIn_ns hns
    exact ⟨_, some od, ho, rfl, rfl, hod⟩
section
variable {C : SC} {Bx : Amb} {E : NE} {u : Bx.U} {Φ : D → Bx.U → Prop} {pos p p2 : Pos} {e c : Expr} {x f : Str} {Cx : Addr}
/-- a class as a value -/
def clsV : D → Option Value
  | .obj a => some (.ref a)
  | .ty T => some (.type T)
  | _ => none
/-- isinstance(e, c), e an error that is held -/
theorem k_isV (L : XL C.K Bx) (hn : Nm C.nm "isinstance" .globalImplicit) (hm : C.mg "isinstance" = none) (h : EvA C Bx [e, c] E u fun ds u' => ∃ (a : Addr) (dc : D) (cv : Value) (xc : XC) (b : Bool), ds = [.obj a, dc] ∧ L.get u' a = some xc ∧ clsV dc = some cv ∧ ExcC C.K xc.cls ∧ PySem.W.kitOne C.K (.ref xc.cls) cv = some b ∧ Φ (.bl b) u')
    (he : ∀ env, starEach [e, c] env = (false, eval e env) :: starEach [c] env := by intro _; rfl) (hpl : ∀ env, (backTo pos (starEach [c] env)).any (·.1) = false := by intro _; rfl) : EvK C Bx (.Call (.Name "isinstance" p) [e, c] [] pos) E u Φ := by
  intro G0 H0 G H σ hE Q q X pins s hX I
  obtain ⟨j, nx, rfl, hO, hK⟩ := id hX
  have hc : CallR X (.builtin "isinstance") (fun xs H1 Q => ∃ (a : Addr) (cc : V) (cv : Value) (xc : XC) (b : Bool) (G1 : Hp), xs = [.ref a, cc] ∧ (∀ u, RelV cc u → u = cv) ∧ Kn G1 H1 ∧ XcOk X.K G1 a xc ∧ ExcC X.K xc.cls ∧ PySem.W.kitOne X.K (.ref xc.cls) cv = some b ∧ Q (.bl b) H1) := by
    intro pins s σ H xs us Q I r ⟨a, cc, cv, xc, b, G1, e1, hcv, kn, hx, hC, hk, q⟩
    subst e1
    cases r with
    | cons rx rr =>
      cases rr with
      | cons rt rr =>
        cases rr
        cases rx
        have ec := hcv _ rt
        subst ec
        obtain ⟨oe, od, J⟩ := xc_inst I kn hx
        obtain ⟨cd, hcd, _⟩ := PySem.W.any_some hC.hd
        exact PySem.W.kia_one (PySem.W.kitx_exc (by rw [hcd]; rfl) hC.hg hC.hk hC.hs hC.ha hC.hn hC.ht hC.hm) I.kIn J hk (fun z => nomatch z) fun tk => ⟨.bl b, H, I.kept (t' := tk) fun _ _ z => z, rfl, q⟩
  refine (pe_callB hc (hn.gl hO) hm bb_isinstance (pa_of hX [e, c]) (by decide +kernel) (by decide +kernel) (he X.env) (hpl X.env)).run pins s σ H Q I ?_
  refine h G0 H0 G H σ hE _ fun ds u1 vs G1 H1 ⟨a, dc, cv, xc, b, e1, hx, hcv, hC, hk, hΦ⟩ g1 st1 r1 => ?_
  subst e1
  obtain ⟨w1, vs1, rfl, rw1, rv1⟩ := RpA.cons_iff.mp r1
  obtain ⟨w2, vs2, rfl, rw2, rv2⟩ := RpA.cons_iff.mp rv1
  obtain rfl := RpA.nil_iff.mp rv2
  simp only [Rp] at rw1
  subst rw1
  refine ⟨a, w2, cv, xc, b, G1, rfl, fun z rz => ?_, g1.gh, L.ok st1 hx, hC, hk, q _ u1 _ G1 H1 hΦ g1 st1 (by simp only [Rp])⟩
  cases dc with
  | obj a2 =>
    simp only [Rp] at rw2
    subst rw2
    cases hcv
    exact rz
  | ty T =>
    simp only [Rp] at rw2
    subst rw2
    cases hcv
    exact rz
  | _ => cases hcv
/-- e.f, e an error that is held -/
theorem k_xfV (L : XL C.K Bx) (h : EvK C Bx e E u fun d u' => ∃ (a Cc : Addr) (y : D), d = .obj a ∧ L.get u' a = some (.fld Cc f y) ∧ XfC C.K Cc ∧ PySem.W.findIn C.K (.ref Cc) f = some none ∧ Φ y u')
    (hb : ∀ env, attributeBase e f env (eval e env) = eval e env := by intro _; rfl) : EvK C Bx (.Attribute e f pos) E u Φ := by
  intro G0 H0 G H σ hE Q q X pins s hX I
  obtain ⟨j, nx, rfl, hO, hK⟩ := id hX
  refine attr_of (hb X.env) (thn ((pe_of hX e).run pins s σ H (fun v H1 => ∃ (a Cc : Addr) (y : D) (u1 : Bx.U) (G1 : Hp), v = .ref a ∧ L.get u1 a = some (.fld Cc f y) ∧ XfC X.K Cc ∧ PySem.W.findIn X.K (.ref Cc) f = some none ∧ Φ y u1 ∧ Grow (Bx.foot u) (Bx.foot u1) G H G1 H1 ∧ Bx.st u1 G1 H1) I ?_) fun uu s1 hh => ?_)
  · refine h G0 H0 G H σ hE _ fun d u1 v G1 H1 ⟨a, Cc, y, ed, hx, T, hno, hΦ⟩ g1 st1 r1 => ?_
    subst ed
    simp only [Rp] at r1
    exact ⟨a, Cc, y, u1, G1, r1, hx, T, hno, hΦ, g1, st1⟩
  obtain ⟨v, H1, I1, rv, a, Cc, y, u1, G1, ev, hx, T, hno, hΦ, g1, st1⟩ := hh
  subst ev
  obtain rfl : uu = Value.ref a := rv
  obtain ⟨dx, w, h1, h2, rd⟩ := L.ok st1 hx
  obtain ⟨t1, ho⟩ := exo_at I1.hok (g1.gh _ _ h1)
  obtain ⟨mA, hns, hr⟩ := exd_at I1.hok (g1.gh _ _ h2)
  obtain ⟨od, hod, hl⟩ := lookIn_ns hns
  have l : List.lookup f [(f, w)] = some w := by rw [List.lookup_cons]; simp
  obtain ⟨z, hz, rz⟩ := RelO.some_of (v := w) (o := mA f) (by rw [← l]; exact hr f)
  have J : PySem.W.InstAt s1.heap a _ Cc (some od) := ⟨ho, rfl, rfl, hod⟩
  exact HandSPX.exc_get I1.kIn J T.ga T.gg T.exC (PySem.W.findObj_own T.hdC hno rfl (by rw [hl, hz])) (handed_of rz) ⟨w, H1, I1.tok _, rz, q y u1 w G1 H1 hΦ g1 st1 rd⟩
end
section
variable {C : SC} {A : Amb} {E : NE} {u : A.U} {Φ : D → A.U → Prop} {pos p p2 : Pos} {x f : Str} {Cx : Addr}
/-- a class by its name -/
theorem k_clsN (hn : Nm C.nm x .globalImplicit) (hm : C.mg x = some (.ref Cx)) (q : Φ (.obj Cx) u) (hd : (x == ("__debug__" : Str)) = false := by decide +kernel) : EvK C A (.Name x p) E u Φ := by
  intro G0 H0 G H σ hE Q k X pins s hX I
  obtain ⟨j, nx, rfl, hO, hK⟩ := id hX
  exact ld_glob I (hn.gl hO) hm ⟨.ref Cx, H, I, rfl, k _ u _ G H q (Grow.refl hE.kn) hE.st (by simp only [Rp])⟩ hd
/-- C.f, a number told in the class -/
theorem k_clsF {i : Int} {t : Tok} (hn : Nm C.nm x .globalImplicit) (hm : C.mg x = some (.ref Cx)) (hr : PySem.W.readsIn C.K Cx (.type "type") = true) (hf : PySem.W.findCls C.K (.ref Cx) (.type "type") f = some (.val (.int i t))) (q : Φ (.int i) u)
    (hb : ∀ env, attributeBase (.Name x p) f env (eval (.Name x p) env) = eval (.Name x p) env := by intro _; rfl) (hd : (x == ("__debug__" : Str)) = false := by decide +kernel) : EvK C A (.Attribute (.Name x p) f pos) E u Φ := by
  intro G0 H0 G H σ hE Q k X pins s hX I
  obtain ⟨j, nx, rfl, hO, hK⟩ := id hX
  refine attr_of (hb X.env) (ld_glob I (hn.gl hO) hm ?_ hd)
  exact PySem.W.cls_value I.kIn hr hf rfl ⟨.int i, H, I.tok _, ⟨t, rfl⟩, k _ u _ G H q (Grow.refl hE.kn) hE.st (by simp only [Rp])⟩
end
end L3
namespace L3
open PySem PySem.Spec PyProof.Rows L2
/-! ### True in a list of truths -/
def inBB (x y : D) (Ψ : Bool → Prop) : Prop := ∃ (b : Bool) (bs : List Bool), x = .bl b ∧ y = .lst (bs.map .bl) ∧ Ψ (decide (b ∈ bs))
theorem inBB_mono : ∀ (x y : D) (P P' : Bool → Prop), (∀ k, P k → P' k) → inBB x y P → inBB x y P' := by
  rintro x y P P' h ⟨s, ss, h1, h2, h3⟩
  exact ⟨s, ss, h1, h2, h _ h3⟩
theorem rpa_bls {K : PySem.W.Frag} {G : Hp} : ∀ {ss : List Bool} {xs : List V}, RpA K G (ss.map .bl) xs → xs = ss.map V.bl
  | [], xs, h => by rw [List.map_nil, RpA.nil_iff] at h; exact h
  | s :: ss, xs, h => by
    rw [List.map_cons, RpA.cons_iff] at h
    obtain ⟨x, r, rfl, h1, h2⟩ := h
    simp only [Rp] at h1
    rw [h1, rpa_bls h2, List.map_cons]
theorem inV_bls (s : Bool) : ∀ ss : List Bool, inV (.bl s) (ss.map V.bl) = decide (s ∈ ss)
  | [] => by simp [inV]
  | t :: ss => by
    have h := inV_bls s ss
    unfold inV at h ⊢
    rw [List.map_cons, List.any_cons, h]
    have e : eqV (.bl t) (.bl s) = decide (s = t) := by
      cases s <;> cases t <;> rfl
    rw [e]
    simp [List.mem_cons]
theorem flat_bls (ss : List Bool) : (ss.map V.bl).all flatV = true := by
  rw [List.all_map]; exact List.all_eq_true.mpr fun _ _ => rfl
section
variable {C : SC}
theorem inb_any {X : Cx} : OpR X (compareOp .In) (rD X.K (toB inBB)) := by
  rintro pins s σ H x y v u Q I rx ry ⟨G, da, db, Ψ, kn, ra, rb, ⟨s1, ss, rfl, rfl, p⟩, q⟩
  simp only [Rp] at ra
  subst ra
  simp only [Rp] at rb
  obtain ⟨z, xs, rfl, h1, h2⟩ := rb
  rw [rpa_bls h2] at h1
  refine op_in_seq pins s σ H _ _ v u Q I rx ry ⟨z, _, rfl, .inl (SqL.of (kn _ _ h1)), rfl, flat_bls ss, ?_⟩
  rw [inV_bls]
  exact q _ _ G H p (Grow.refl kn) (by simp [Rp])
theorem inb_ok : OpS C (compareOp .In) (toB inBB) := by
  rintro X ⟨k, nm, rfl, hO, hK⟩
  exact inb_any
end
end L3
namespace L3
open PySem PySem.Spec PyProof.Rows L2
/-! ### repr of data with dicts in them -/
mutual
def D.pl3 : D → Bool
  | .non | .bl _ | .int _ | .str _ => true
  | .lst l | .tup l => D.plA3 l
  | .dct l => D.plK3 l
  | _ => false
def D.plA3 : List D → Bool
  | [] => true
  | d :: ds => d.pl3 && D.plA3 ds
def D.plK3 : List (Key × D) → Bool
  | [] => true
  | (_, d) :: ds => d.pl3 && D.plK3 ds
end
def pk3 : Key → PyData
  | .inl i => .int i
  | .inr x => .str x
mutual
def pd3 : D → PyData
  | .bl b => .bool b
  | .int i => .int i
  | .str s => .str s
  | .lst l => .list (pdA3 l)
  | .tup l => .tuple (pdA3 l)
  | .dct l => .dict (pdK3 l)
  | _ => .none
def pdA3 : List D → List PyData
  | [] => []
  | d :: ds => pd3 d :: pdA3 ds
def pdK3 : List (Key × D) → List (PyData × PyData)
  | [] => []
  | (k, d) :: ds => (pk3 k, pd3 d) :: pdK3 ds
end
theorem pk3_reads {h : Heap} {k : Key} {v : Value} (e : keyIs k v = true) : Reads h v (pk3 k) [] := by
  rcases keyIs_shape e with ⟨i, t, rfl, rfl⟩ | ⟨x, t, rfl, rfl⟩
  · exact .int i t
  · exact .str x t
section
variable {X : Cx} {pins : List (Addr × Obj)} {σ : L2.St} {G H : Hp} {s : Shared}
mutual
theorem Rp.reads3 (I : L2.Inv X pins σ H s) (hb : BaseSm X.base) (kn : Kn G H) : ∀ {d : D} {v : V} {u : Value}, d.pl3 = true → Rp X.K G d v → L2.RelV v u → ∃ as, Reads s.heap u (pd3 d) as ∧ ¬ sysModules ∈ as
  | .non, v, u, _, h, r => by simp only [Rp] at h; subst h; cases r; exact ⟨_, by simp only [pd3]; exact .none, by simp⟩
  | .bl b, v, u, _, h, r => by simp only [Rp] at h; subst h; cases r; exact ⟨_, by simp only [pd3]; exact .bool b, by simp⟩
  | .int b, v, u, _, h, r => by simp only [Rp] at h; subst h; obtain ⟨t, rfl⟩ := r; exact ⟨_, by simp only [pd3]; exact .int b t, by simp⟩
  | .str b, v, u, _, h, r => by simp only [Rp] at h; subst h; obtain ⟨t, rfl⟩ := r; exact ⟨_, by simp only [pd3]; exact .str b t, by simp⟩
  | .lst l, v, u, p, h, r => by
    simp only [Rp] at h
    simp only [D.pl3] at p
    obtain ⟨a, xs, rfl, h1, h2⟩ := h
    cases r
    obtain ⟨its, rv, pl, _⟩ := I.list (SqL.of (kn _ _ h1))
    obtain ⟨o, e1, e2, n, e3⟩ := pl.isList
    obtain ⟨as, r1, r2⟩ := RpA.reads3 I hb kn p h2 rv
    have ne : sysModules ≠ a := fun z => by
      have := kn _ _ h1
      rw [← z, free_sm I hb] at this
      cases this
    refine ⟨a :: as, by simp only [pd3]; exact .list e1 e2 e3 (by simpa using r1), ?_⟩
    intro m
    rcases List.mem_cons.mp m with z | z
    · exact ne z
    · exact r2 z
  | .tup l, v, u, p, h, r => by
    simp only [Rp] at h
    simp only [D.pl3] at p
    obtain ⟨a, xs, rfl, h1, h2⟩ := h
    cases r
    obtain ⟨its, rv, ⟨o, e1, e2, n, e3⟩, _⟩ := I.tuple (kn.sqT h1)
    obtain ⟨as, r1, r2⟩ := RpA.reads3 I hb kn p h2 rv
    exact ⟨as, by simp only [pd3]; exact .tuple e1 e2 e3 (by simpa using r1), r2⟩
  | .dct l, v, u, p, h, r => by
    simp only [Rp] at h
    simp only [D.pl3] at p
    obtain ⟨a, kvs, rfl, h1, h2⟩ := h
    cases r
    have z := I.hok _ _ (kn _ _ h1)
    unfold ObjOk at z
    obtain ⟨_, hs, vs, hv, o, es, ep, e1, e2, e3, _, e5, _⟩ := z
    obtain ⟨as, bs, r1, r2, r3, r4⟩ := RpK.reads3 I hb kn p h2 hv e5
    refine ⟨a :: (as ++ bs), by simp only [pd3]; exact .dict e1 e2.1 e3 r1 r2, ?_⟩
    intro m
    rcases List.mem_cons.mp m with z | z
    · have hs : (a == sysModules) = false := hs
      rw [z] at hs
      simp at hs
    · rcases List.mem_append.mp z with z | z
      · exact r3 z
      · exact r4 z
  | .ty _, _, _, p, _, _ | .obj _, _, _, p, _, _ => by simp only [D.pl3] at p; cases p
theorem RpA.reads3 (I : L2.Inv X pins σ H s) (hb : BaseSm X.base) (kn : Kn G H) : ∀ {ds : List D} {xs : List V} {us : List Value}, D.plA3 ds = true → RpA X.K G ds xs → L2.Vals xs us → ∃ as, ReadsAll s.heap us (pdA3 ds) as ∧ ¬ sysModules ∈ as
  | [], xs, us, _, h, r => by
    rw [RpA.nil_iff] at h; subst h
    cases r
    exact ⟨[], by simp only [pdA3]; exact .nil, by simp⟩
  | d :: ds, xs, us, p, h, r => by
    rw [RpA.cons_iff] at h
    simp only [D.plA3, Bool.and_eq_true] at p
    obtain ⟨x, r', rfl, h1, h2⟩ := h
    cases r with
    | cons ra rb =>
      obtain ⟨as, a1, a2⟩ := Rp.reads3 I hb kn p.1 h1 ra
      obtain ⟨bs, b1, b2⟩ := RpA.reads3 I hb kn p.2 h2 rb
      refine ⟨as ++ bs, by simp only [pdA3]; exact .cons a1 b1, fun m => ?_⟩
      rcases List.mem_append.mp m with z | z
      · exact a2 z
      · exact b2 z
theorem RpK.reads3 (I : L2.Inv X pins σ H s) (hb : BaseSm X.base) (kn : Kn G H) : ∀ {ds : List (Key × D)} {xs : List (Key × V)} {vs : List (Key × Value)} {es : List DictEntry}, D.plK3 ds = true → RpK X.K G ds xs → L2.KV xs vs → Pairs (mixKind X.prog X.w) es vs → ∃ as bs, ReadsAll s.heap (es.map (·.key)) ((pdK3 ds).map (·.1)) as ∧ ReadsAll s.heap (es.map (·.val)) ((pdK3 ds).map (·.2)) bs ∧ ¬ sysModules ∈ as ∧ ¬ sysModules ∈ bs
  | [], xs, vs, es, _, h, r, q => by
    simp only [RpK] at h; subst h
    cases r
    cases q
    exact ⟨[], [], by simp only [pdK3]; exact .nil, by simp only [pdK3]; exact .nil, by simp, by simp⟩
  | (k, d) :: ds, xs, vs, es, p, h, r, q => by
    simp only [RpK] at h
    simp only [D.plK3, Bool.and_eq_true] at p
    obtain ⟨x, r', rfl, h1, h2⟩ := h
    cases r with
    | cons ra rb =>
      cases q with
      | cons q1 q2 q3 =>
        obtain ⟨e1, e2⟩ := ra
        obtain ⟨as, a1, a2⟩ := Rp.reads3 I hb kn p.1 h1 e2
        obtain ⟨bs, cs, b1, b2, b3, b4⟩ := RpK.reads3 I hb kn p.2 h2 rb q3
        refine ⟨[] ++ bs, as ++ cs, ?_, ?_, b3, fun m => ?_⟩
        · simp only [pdK3, List.map_cons]
          refine .cons (pk3_reads ?_) b1
          have e1 : k = _ := e1
          rw [e1]
          exact q1
        · simp only [pdK3, List.map_cons]
          rw [q2]
          exact .cons a1 b2
        · rcases List.mem_append.mp m with z | z
          · exact a2 z
          · exact b4 z
end
end
def reprW3 : List D → (D → Prop) → Prop
  | [d], Ψ => d.pl3 = true ∧ (pd3 d).showable = true ∧ (pd3 d).depth ≤ 60 ∧ (pd3 d).shown.length ≤ sizeLine ∧ Ψ (.str (pd3 d).shown)
  | _, _ => False
theorem repr3_ok {C : SC} (hb : BaseSm C.base) : CallS C (.builtin "repr") reprW3 := by
  rintro X ⟨k, nm, rfl, hO, hK⟩ pins s σ H xs us Q I rx ⟨G, ds, Ψ, kn, r, f, q⟩
  obtain ⟨d, rfl⟩ : ∃ d, ds = [d] := by
    rcases ds with _ | ⟨d, _ | ⟨d2, ds⟩⟩
    · exact f.elim
    · exact ⟨d, rfl⟩
    · cases d <;> exact f.elim
  obtain ⟨x, ex, r1⟩ := rpa1 r
  subst ex
  clear r
  have r := r1
  clear r1
  obtain ⟨f1, f2, f3, f4, f⟩ := f
  have hu := Has.hu hK
  obtain ⟨v, rfl, rv⟩ : ∃ v, us = [v] ∧ RelV x v := by
    cases rx with
    | cons a b => cases b; exact ⟨_, rfl, a⟩
  obtain ⟨as, rd, nsm⟩ := Rp.reads3 I hb kn f1 r rv
  have fin : ∀ (h' : Heap) (u : Tok) (tk : Nat), (∀ b o, s.heap.get? b = some o → h'.get? b = some o) → EP X pins σ Q (.str (pd3 d).shown u) { s with heap := h', toks := tk } := fun h' u tk hk =>
    ⟨.str _, H, I.kept (t' := tk) hk, ⟨u, rfl⟩, q _ _ G H f (Grow.refl kn) (by simp only [Rp])⟩
  have tk : ∀ n, EP X pins σ Q (.str (pd3 d).shown n) { s with toks := n + 1 } := fun n => fin s.heap n (n + 1) fun _ _ e => e
  cases d with
  | non => simp only [Rp] at r; subst r; cases rv; exact PySem.P.repr_of_none (tk _)
  | bl b => simp only [Rp] at r; subst r; cases rv; exact PySem.P.repr_of_bool (by cases b <;> exact tk _)
  | int i =>
    simp only [Rp] at r; subst r; obtain ⟨t, rfl⟩ := rv
    exact PySem.P.repr_of_int (by simpa [pd3, PyData.showable] using f2) (tk _)
  | str i =>
    simp only [Rp] at r; subst r; obtain ⟨t, rfl⟩ := rv
    exact PySem.P.repr_of_str (tk _) f4
  | lst l =>
    simp only [Rp] at r; obtain ⟨a, ys, rfl, _, _⟩ := r; cases rv
    exact PySem.repr_of_reads' rd f2 (fun _ => nsm) hK.gd (by omega) (fun _ _ e => e) fin f4
  | tup l =>
    simp only [Rp] at r; obtain ⟨a, ys, rfl, _, _⟩ := r; cases rv
    exact PySem.repr_of_reads' rd f2 (fun _ => nsm) hK.gd (by omega) (fun _ _ e => e) fin f4
  | dct l =>
    simp only [Rp] at r; obtain ⟨a, ys, rfl, _, _⟩ := r; cases rv
    exact PySem.repr_of_reads' rd f2 (fun _ => nsm) hK.gd (by omega) (fun _ _ e => e) fin f4
  | _ => simp only [D.pl3] at f1; cases f1
section
variable {C : SC} {A : Amb} {E : NE} {u : A.U} {P : Post A} {pos p : Pos} {e : Expr} {Φ : D → A.U → Prop}
theorem k_repr3 (hb : BaseSm C.base) (hn : Nm C.nm "repr" .globalImplicit) (hm : C.mg "repr" = none) (h : EvK C A e E u fun d u' => reprW3 [d] fun d' => Φ d' u')
    (he : ∀ env, starEach [e] env = (false, eval e env) :: starEach [] env := by intro _; rfl) (hpl : ∀ env, (backTo pos (starEach [] env)).any (·.1) = false := by intro _; rfl) : EvK C A (.Call (.Name "repr" p) [e] [] pos) E u Φ := by
  refine k_callB (repr3_ok hb) hn hm bb_repr ?_ (by decide +kernel) (by decide +kernel) he hpl
  exact a_cons (h.imp fun d u' q => a_nil q) he
end
end L3
namespace L3
open PySem PySem.Spec PyProof.Rows L2
/-! ### defs without held errors, called beside them -/
section
variable {K : PySem.W.Frag} {A : Amb}
def exS (sem : Sem3 A) : Sem3 (exA K A) := fun ds u Φ => sem ds u.1 fun d m' => Φ d (m', u.2)
variable {P : Program} {w : World} {mg : Str → Option Value} {base : Heap} {k : Nat} {f : Addr} {fd : FuncData} {ps : List Str} {x : Str}
theorem FnG.ex {sem : Sem3 A} (F : FnG P w K mg base k f fd ps (spD K A sem)) : FnG P w K mg base k f fd ps (spD K (exA K A) (exS sem)) := by
  have key : ∀ vs H Q E, spD K (exA K A) (exS (K := K) sem) vs H Q E → spD K A sem vs H Q E := by
    rintro vs H Q E ⟨G, ds, ⟨m, cs⟩, Φ, kn, st, r, h, q⟩
    exact ⟨G, ds, m, fun d m' => Φ d (m', cs), kn, st.1, r, h, fun d m' v G' H' p g st' r' => q d (m', cs) v G' H' p g ⟨st', fun a c hc => (st.2 a c hc).mono g.gg⟩ r'⟩
  exact ⟨fun vs H Q E h => F.len vs H Q E (key _ _ _ _ h), fun A' outer s H args us vs Q hr hg he hb r h => F.run A' outer s H args us vs Q hr hg he hb r (key _ _ _ _ h)⟩
theorem DefK.exl {sem : Sem3 A} (F : DefK P w K mg base k A x sem) : DefK P w K mg base k (exA K A) x (exS sem) := by
  obtain ⟨f, fd, ps, a, b, c, G⟩ := F.ex
  exact ⟨f, fd, ps, a, b, c, G.ex⟩
end
section
variable {C : SC} {A : Amb} {G0 : Beg} {H0 G H : Hp} {E : NE} {σ : L2.St}
theorem Env.exl {u : A.U} (he : Env C A G0 H0 u G H E σ) : Env C (exA C.K A) G0 H0 (u, XCells.no) G H E σ := by
  obtain ⟨α, h1, h2⟩ := he.ent
  exact ⟨he.gr, he.ln, ⟨he.st, fun a c z => nomatch z⟩, he.nd, α, h1, h2⟩
theorem Env.unex {u : (exA C.K A).U} (he : Env C (exA C.K A) G0 H0 u G H E σ) : Env C A G0 H0 u.1 G H E σ := by
  obtain ⟨α, h1, h2⟩ := he.ent
  exact ⟨he.gr, he.ln, he.st.1, he.nd, α, h1, h2⟩
/-- from here on errors are held -/
theorem r_ex {u : A.U} {sts : List Stmt} {P : Post A} (h : RunK C (exA C.K A) sts E (u, XCells.no) { nx := fun E' u' => P.nx E' u'.1, rt := fun d u' => P.rt d u'.1, bk := fun E' u' => P.bk E' u'.1, ct := fun E' u' => P.ct E' u'.1 }) : RunK C A sts E u P := by
  intro G0 H0 G H σ Ds he S
  exact h G0 H0 G H σ Ds he.exl ⟨fun E u G H σ p he => S.nx E u.1 G H σ p he.unex, fun E u G H σ p he => S.bk E u.1 G H σ p he.unex, fun E u G H σ p he => S.ct E u.1 G H σ p he.unex, fun d u v G H p g st r => S.rt d u.1 v G H p g st.1 r⟩
end
section
variable {C : SC} {A : Amb} {E : NE} {u : A.U} {Φ : D → A.U → Prop} {pos p : Pos}
/-- a def called without arguments -/
theorem k_call0 [hh : Cold C] {x : Str} {sem : Sem3 A} (F : DefK C.P C.w C.K C.mg C.base C.k A x sem) (hn : Nm C.nm x .globalImplicit) (h : sem [] u Φ) (hd : (x == ("__debug__" : Str)) = false := by decide +kernel) : EvK C A (.Call (.Name x p) [] [] pos) E u Φ := by
  intro G0 H0 G H σ hE Q q X pins s hX I
  obtain ⟨j, nm, rfl, hO, hK⟩ := id hX
  obtain ⟨f, fd, ps, hm, hk, hb, F⟩ := F.ex
  refine wpAny_Call_Name_kw (ld_glob I (hn.gl hO) hm ?_ hd)
  refine PySem.W.callWith_K0 (first := []) I.kIn hk ?_
  have z : spD X.K A sem [] H Q E0 := ⟨G, [], u, Φ, hE.kn, hE.st, RpA.nil_iff.mpr rfl, h, fun d u2 v G2 H2 p2 g2 st2 r2 => q d u2 v G2 H2 p2 g2 st2 r2⟩
  have hl : ([] : List Value).length = ps.length := F.len _ _ _ _ z
  have hb' := hb s [] I.kIn (by rw [List.append_nil]; exact hl)
  rw [List.append_nil] at hb'
  refine wpAny_call (codeAny_mono (F.run X.A X.stack s H ⟨[], []⟩ [] [] Q (hK.room hh.h) hK.gd I.env0 hb' .nil z) fun rr s' hq => ?_)
  cases rr with
  | error e => exact hq.elim
  | ok fl =>
    cases fl with
    | ret u => exact I.after hq
    | next => exact hq.elim
    | brk => exact hq.elim
    | cont => exact hq.elim
end
end L3
/-! L3hd: the walk's end over facts -/
namespace L3
open PySem PySem.Spec PyProof.Rows L2
theorem walkG2E {l : PySem.W.OpenLaw} {n k : Nat} {q : Program} {loose : List Str} {XP : (Str → Option Value) → Heap → Prop} {YP : World → Heap → Prop} {d : DefRec} {x : Str}
    (hi : PyProof.Rows.importsNone q = true) (hn : l.most = some n) (hn2 : n ≤ sizeLine) (hdf : d.params.defaults = []) (hr : Room k callerA)
    (F : ∀ (w : World) (mg : Str → Option Value) (fa : Addr) (h : Heap), YP w h → h.Ns mainGlobals mg → mg d.name = some (.ref fa) →
      ∃ (K : PySem.W.Frag), K.In h ∧ ∃ fd : FuncData, (∀ (s : Shared) (u : Value), BindsTo s fd ⟨[u], []⟩ [(x, u)]) ∧
        ∀ base : Heap, K.In base → base.Ns mainGlobals mg → BaseSm base → FnG l.prog w K mg base k fa fd [x] (spLaw K)) :
    PySem.W.WalkO q loose XP YP l.row.toRowW d [] (fun f vs => PySem.call f vs) := by
  refine Att.attach_call hn hdf fun w s0 s1 mg mb fa o pm cd doc a vs ns G Y ho hd hcd hmg hobj hints hlen hg => ?_
  obtain ⟨K, KX, fd, hb, hF⟩ := F w mg fa _ Y G.T.g hmg
  exact law_callG2 KX G.T.g G.T.b G.T.builtins G.T.nolimit (let ⟨mm, z, _⟩ := (G.T.seer hi).mods; ⟨mm, z⟩) hg hobj hints (Nat.le_trans hlen hn2) hr hF hb
end L3
namespace My
open PySem PySem.Spec PyProof.Rows L2 L3
abbrev N_BadText___init__ : List Str := ["self", "line"]
abbrev m_BadText___init__ : List (Str × NameKind) := [("self", .local), ("line", .local), ("PairError", .globalImplicit)]
theorem sc_BadText___init__ : ScOk N_BadText___init__ ["self", "line"] s_BadText___init__ m_BadText___init__ := ⟨⟨rfl, rfl, rfl, by decide +kernel, rfl, by decide +kernel, by decide +kernel⟩, by decide +kernel⟩
abbrev N_BadScheme___init__ : List Str := ["self", "error"]
abbrev m_BadScheme___init__ : List (Str × NameKind) := [("self", .local), ("error", .local), ("PairError", .globalImplicit)]
theorem sc_BadScheme___init__ : ScOk N_BadScheme___init__ ["self", "error"] s_BadScheme___init__ m_BadScheme___init__ := ⟨⟨rfl, rfl, rfl, by decide +kernel, rfl, by decide +kernel, by decide +kernel⟩, by decide +kernel⟩
abbrev N_BadRule___init__ : List Str := ["self", "error"]
abbrev m_BadRule___init__ : List (Str × NameKind) := [("self", .local), ("error", .local), ("PairError", .globalImplicit)]
theorem sc_BadRule___init__ : ScOk N_BadRule___init__ ["self", "error"] s_BadRule___init__ m_BadRule___init__ := ⟨⟨rfl, rfl, rfl, by decide +kernel, rfl, by decide +kernel, by decide +kernel⟩, by decide +kernel⟩
abbrev N_BadWord___init__ : List Str := ["self", "word"]
abbrev m_BadWord___init__ : List (Str × NameKind) := [("self", .local), ("word", .local), ("PairError", .globalImplicit)]
theorem sc_BadWord___init__ : ScOk N_BadWord___init__ ["self", "word"] s_BadWord___init__ m_BadWord___init__ := ⟨⟨rfl, rfl, rfl, by decide +kernel, rfl, by decide +kernel, by decide +kernel⟩, by decide +kernel⟩
abbrev N_BadLength___init__ : List Str := ["self", "length"]
abbrev m_BadLength___init__ : List (Str × NameKind) := [("self", .local), ("length", .local), ("PairError", .globalImplicit)]
theorem sc_BadLength___init__ : ScOk N_BadLength___init__ ["self", "length"] s_BadLength___init__ m_BadLength___init__ := ⟨⟨rfl, rfl, rfl, by decide +kernel, rfl, by decide +kernel, by decide +kernel⟩, by decide +kernel⟩
abbrev N_NotRight___init__ : List Str := ["self", "which"]
abbrev m_NotRight___init__ : List (Str × NameKind) := [("self", .local), ("which", .local), ("PairError", .globalImplicit)]
theorem sc_NotRight___init__ : ScOk N_NotRight___init__ ["self", "which"] s_NotRight___init__ m_NotRight___init__ := ⟨⟨rfl, rfl, rfl, by decide +kernel, rfl, by decide +kernel, by decide +kernel⟩, by decide +kernel⟩
abbrev N_NotLeft___init__ : List Str := ["self", "word"]
abbrev m_NotLeft___init__ : List (Str × NameKind) := [("self", .local), ("word", .local), ("PairError", .globalImplicit)]
theorem sc_NotLeft___init__ : ScOk N_NotLeft___init__ ["self", "word"] s_NotLeft___init__ m_NotLeft___init__ := ⟨⟨rfl, rfl, rfl, by decide +kernel, rfl, by decide +kernel, by decide +kernel⟩, by decide +kernel⟩
abbrev N_Faulty___init__ : List Str := ["self", "fault"]
abbrev m_Faulty___init__ : List (Str × NameKind) := [("self", .local), ("fault", .local), ("PairError", .globalImplicit)]
theorem sc_Faulty___init__ : ScOk N_Faulty___init__ ["self", "fault"] s_Faulty___init__ m_Faulty___init__ := ⟨⟨rfl, rfl, rfl, by decide +kernel, rfl, by decide +kernel, by decide +kernel⟩, by decide +kernel⟩
abbrev N_BadEdit___init__ : List Str := ["self", "index"]
abbrev m_BadEdit___init__ : List (Str × NameKind) := [("self", .local), ("index", .local), ("PairError", .globalImplicit)]
theorem sc_BadEdit___init__ : ScOk N_BadEdit___init__ ["self", "index"] s_BadEdit___init__ m_BadEdit___init__ := ⟨⟨rfl, rfl, rfl, by decide +kernel, rfl, by decide +kernel, by decide +kernel⟩, by decide +kernel⟩
abbrev N_Rejected___init__ : List Str := ["self", "index"]
abbrev m_Rejected___init__ : List (Str × NameKind) := [("self", .local), ("index", .local), ("PairError", .globalImplicit)]
theorem sc_Rejected___init__ : ScOk N_Rejected___init__ ["self", "index"] s_Rejected___init__ m_Rejected___init__ := ⟨⟨rfl, rfl, rfl, by decide +kernel, rfl, by decide +kernel, by decide +kernel⟩, by decide +kernel⟩
abbrev N_NoPair___init__ : List Str := ["self", "index"]
abbrev m_NoPair___init__ : List (Str × NameKind) := [("self", .local), ("index", .local), ("LookupError", .globalImplicit)]
theorem sc_NoPair___init__ : ScOk N_NoPair___init__ ["self", "index"] s_NoPair___init__ m_NoPair___init__ := ⟨⟨rfl, rfl, rfl, by decide +kernel, rfl, by decide +kernel, by decide +kernel⟩, by decide +kernel⟩
abbrev N_NoVersion___init__ : List Str := ["self", "version"]
abbrev m_NoVersion___init__ : List (Str × NameKind) := [("self", .local), ("version", .local), ("LookupError", .globalImplicit)]
theorem sc_NoVersion___init__ : ScOk N_NoVersion___init__ ["self", "version"] s_NoVersion___init__ m_NoVersion___init__ := ⟨⟨rfl, rfl, rfl, by decide +kernel, rfl, by decide +kernel, by decide +kernel⟩, by decide +kernel⟩
abbrev N_l_deck : List Str := ["_law_script", "_law_cell"]
abbrev m_l_deck : List (Str × NameKind) := [("_law_script", .local)]
theorem sc_l_deck : ScOk N_l_deck ["_law_script"] s_l_deck m_l_deck := ⟨⟨rfl, rfl, rfl, by decide +kernel, rfl, by decide +kernel, by decide +kernel⟩, by decide +kernel⟩
abbrev N_l_draw : List Str := ["_law_deck_here", "_law_many", "_law_cell", "_law_at", "_law_mixed"]
abbrev m_l_draw : List (Str × NameKind) := [("_law_deck_here", .local), ("_law_many", .local), ("_law_cell", .local), ("_law_at", .local), ("len", .globalImplicit), ("int", .globalImplicit), ("_law_mixed", .local)]
theorem sc_l_draw : ScOk N_l_draw ["_law_deck_here", "_law_many"] s_l_draw m_l_draw := ⟨⟨rfl, rfl, rfl, by decide +kernel, rfl, by decide +kernel, by decide +kernel⟩, by decide +kernel⟩
abbrev N_l_one : List Str := ["_law_deck_here", "_law_items"]
abbrev m_l_one : List (Str × NameKind) := [("_law_deck_here", .local), ("_law_items", .local), ("_law_draw", .globalImplicit), ("len", .globalImplicit)]
theorem sc_l_one : ScOk N_l_one ["_law_deck_here", "_law_items"] s_l_one m_l_one := ⟨⟨rfl, rfl, rfl, by decide +kernel, rfl, by decide +kernel, by decide +kernel⟩, by decide +kernel⟩
abbrev N_l_value : List Str := ["_law_deck_here", "_law_many", "_law_values"]
abbrev m_l_value : List (Str × NameKind) := [("_law_deck_here", .local), ("_law_many", .local), ("_law_draw", .globalImplicit), ("_law_values", .local), ("str", .globalImplicit), ("_law_one", .globalImplicit)]
theorem sc_l_value : ScOk N_l_value ["_law_deck_here"] s_l_value m_l_value := ⟨⟨rfl, rfl, rfl, by decide +kernel, rfl, by decide +kernel, by decide +kernel⟩, by decide +kernel⟩
abbrev N_l_kinds : List Str := ["_law_e", "_law_found"]
abbrev m_l_kinds : List (Str × NameKind) := [("_law_e", .local), ("_law_found", .local), ("isinstance", .globalImplicit), ("BadText", .globalImplicit), ("BadScheme", .globalImplicit), ("BadRule", .globalImplicit), ("BadWord", .globalImplicit), ("BadLength", .globalImplicit), ("NotRight", .globalImplicit), ("NotLeft", .globalImplicit), ("Faulty", .globalImplicit), ("Busy", .globalImplicit), ("TooManyEdits", .globalImplicit), ("NothingToUndo", .globalImplicit), ("NothingToRedo", .globalImplicit), ("BadEdits", .globalImplicit), ("BadEdit", .globalImplicit), ("Rejected", .globalImplicit), ("TooFar", .globalImplicit), ("TooGreat", .globalImplicit)]
theorem sc_l_kinds : ScOk N_l_kinds ["_law_e"] s_l_kinds m_l_kinds := ⟨⟨rfl, rfl, rfl, by decide +kernel, rfl, by decide +kernel, by decide +kernel⟩, by decide +kernel⟩
abbrev N_l_kinds_right : List Str := ["_law_a", "_law_some", "_law_k", "_law_e", "_law_j"]
abbrev m_l_kinds_right : List (Str × NameKind) := [((("_law_a" : Str), NameKind.local) : Str × NameKind), ((("_law_some" : Str), NameKind.local) : Str × NameKind), ((("BadText" : Str), NameKind.globalImplicit) : Str × NameKind), ((("BadScheme" : Str), NameKind.globalImplicit) : Str × NameKind), ((("BadRule" : Str), NameKind.globalImplicit) : Str × NameKind), ((("BadWord" : Str), NameKind.globalImplicit) : Str × NameKind), ((("BadLength" : Str), NameKind.globalImplicit) : Str × NameKind), ((("NotRight" : Str), NameKind.globalImplicit) : Str × NameKind), ((("NotLeft" : Str), NameKind.globalImplicit) : Str × NameKind), ((("Faulty" : Str), NameKind.globalImplicit) : Str × NameKind), ((("Busy" : Str), NameKind.globalImplicit) : Str × NameKind), ((("TooManyEdits" : Str), NameKind.globalImplicit) : Str × NameKind), ((("NothingToUndo" : Str), NameKind.globalImplicit) : Str × NameKind), ((("NothingToRedo" : Str), NameKind.globalImplicit) : Str × NameKind), ((("BadEdits" : Str), NameKind.globalImplicit) : Str × NameKind), ((("BadEdit" : Str), NameKind.globalImplicit) : Str × NameKind), ((("Rejected" : Str), NameKind.globalImplicit) : Str × NameKind), ((("TooFar" : Str), NameKind.globalImplicit) : Str × NameKind), ((("TooGreat" : Str), NameKind.globalImplicit) : Str × NameKind), ((("_law_k" : Str), NameKind.cell) : Str × NameKind), ((("range" : Str), NameKind.globalImplicit) : Str × NameKind), ((("_law_kinds" : Str), NameKind.globalImplicit) : Str × NameKind), ((("isinstance" : Str), NameKind.globalImplicit) : Str × NameKind), ((("LookupError" : Str), NameKind.globalImplicit) : Str × NameKind), ((("PairError" : Str), NameKind.globalImplicit) : Str × NameKind), ((("ValueError" : Str), NameKind.globalImplicit) : Str × NameKind), ((("_law_e" : Str), NameKind.local) : Str × NameKind), ((("NoPair" : Str), NameKind.globalImplicit) : Str × NameKind), ((("NoVersion" : Str), NameKind.globalImplicit) : Str × NameKind)]
theorem sc_l_kinds_right : ScOk N_l_kinds_right ["_law_a"] s_l_kinds_right m_l_kinds_right := ⟨⟨rfl, rfl, rfl, by decide +kernel, rfl, by decide +kernel, by decide +kernel⟩, by decide +kernel⟩
abbrev N_l_fields_right : List Str := ["_law_a", "_law_found", "_law_one_here"]
abbrev m_l_fields_right : List (Str × NameKind) := [("_law_a", .local), ("_law_found", .local), ("BadText", .globalImplicit), ("BadScheme", .globalImplicit), ("BadRule", .globalImplicit), ("BadWord", .globalImplicit), ("BadLength", .globalImplicit), ("NotRight", .globalImplicit), ("NotLeft", .globalImplicit), ("Faulty", .globalImplicit), ("BadEdit", .globalImplicit), ("Rejected", .globalImplicit), ("NoPair", .globalImplicit), ("NoVersion", .globalImplicit), ("repr", .globalImplicit), ("len", .globalImplicit)]
theorem sc_l_fields_right : ScOk N_l_fields_right ["_law_a"] s_l_fields_right m_l_fields_right := ⟨⟨rfl, rfl, rfl, by decide +kernel, rfl, by decide +kernel, by decide +kernel⟩, by decide +kernel⟩
abbrev N_l_bounds : List Str := ["_law_found"]
abbrev m_l_bounds : List (Str × NameKind) := [("_law_found", .local), ("MAX_LETTERS", .globalImplicit), ("MAX_STATES", .globalImplicit), ("MAX_ROWS", .globalImplicit), ("MAX_PAIRS", .globalImplicit), ("MAX_WINDOW", .globalImplicit), ("MAX_LENGTH", .globalImplicit), ("MAX_STEPS", .globalImplicit), ("MAX_EDITS", .globalImplicit), ("BATCH", .globalImplicit), ("Bench", .globalImplicit), ("RightBench", .globalImplicit)]
theorem sc_l_bounds : ScOk N_l_bounds [] s_l_bounds m_l_bounds := ⟨⟨rfl, rfl, rfl, by decide +kernel, rfl, by decide +kernel, by decide +kernel⟩, by decide +kernel⟩
abbrev N_law : List Str := ["_law_script", "_law_deck_here", "_law_turn", "_law_a", "_law_value_here", "_law_error"]
abbrev m_law : List (Str × NameKind) := [("_law_script", .local), ("_law_deck_here", .local), ("_law_deck", .globalImplicit), ("_law_turn", .local), ("range", .globalImplicit), ("_law_a", .local), ("_law_value", .globalImplicit), ("_law_kinds_right", .globalImplicit), ("_law_fields_right", .globalImplicit), ("_law_value_here", .local), ("_law_error", .local), ("BadWord", .globalImplicit), ("repr", .globalImplicit), ("_law_bounds", .globalImplicit)]
theorem sc_law : ScOk N_law ["_law_script"] s_law m_law := ⟨⟨rfl, rfl, rfl, by decide +kernel, rfl, by decide +kernel, by decide +kernel⟩, by decide +kernel⟩
local macro_rules | `(tactic| walk_at "wip") => `(tactic| (repeat (first | exact Wip.nil | (apply Wip.cons; walk_at "spl"))))
local macro_rules | `(tactic| walk_at "blk") => `(tactic| (dsimp only [sc0, SC.nm, SC.tr, SC.su]; decide +kernel))
local macro_rules | `(tactic| walk_at "fg") => `(tactic| (repeat (first | exact trivial | refine ⟨.inl rfl, ?_⟩ | refine ⟨.inr rfl, ?_⟩)))
local macro_rules | `(tactic| walk_at "map") => `(tactic| refine l_map (by walk_at "wip") (by walk_at "blk") (by walk_at "spl") (by walk_at "nm") (by constructor) ?_)
local macro_rules | `(tactic| walk_at "filter") => `(tactic| refine l_filter (by walk_at "wip") (by walk_at "blk") (by walk_at "spl") (by walk_at "nm") (by constructor) ?_)
local macro_rules | `(tactic| walk_at "draw") => `(tactic| refine l_draw (by walk_at "wip") (by walk_at "blk") (by walk_at "spl") (by walk_at "nm") (by constructor) ?_)
local macro_rules | `(tactic| walk_at "pair") => `(tactic| refine l_pair (by walk_at "wip") (by walk_at "blk") (by walk_at "spl") (fun _ => by walk_at "spl") (by walk_at "nm") (by walk_at "nm") (by constructor) (by constructor) ?_)
local macro_rules | `(tactic| walk_at "g_EvK_Constant") => `(tactic| first
  | ((with_reducible show EvK _ _ (Expr.Constant (Const.int _) _ _) _ _ _); refine k_int ?_)
  | ((with_reducible show EvK _ _ (Expr.Constant (Const.str _) _ _) _ _ _); refine k_str ?_)
  | ((with_reducible show EvK _ _ (Expr.Constant Const.none _ _) _ _ _); refine k_non ?_)
  | ((with_reducible show EvK _ _ (Expr.Constant (Const.bool _) _ _) _ _ _); refine k_bl ?_))
local macro_rules | `(tactic| walk_at "g_EvK_BinOp") => `(tactic| first
  | ((with_reducible show EvK _ _ (Expr.BinOp (Expr.Name _ _) Operator.Add _ _) _ _ _); (first | refine k_of_n (n_catO (by walk_at "spl") (by walk_at "at") (by walk_at "nm") (by constructor) ?_) | refine k_bin add_ok ?_))
  | ((with_reducible show EvK _ _ (Expr.BinOp _ Operator.Add _ _) _ _ _); refine k_bin add_ok ?_)
  | ((with_reducible show EvK _ _ (Expr.BinOp _ Operator.Sub _ _) _ _ _); refine k_bin sub_ok ?_)
  | ((with_reducible show EvK _ _ (Expr.BinOp _ Operator.Mult _ _) _ _ _); refine k_bin mul_ok ?_)
  | ((with_reducible show EvK _ _ (Expr.BinOp _ Operator.Mod _ _) _ _ _); refine k_bin mod_ok ?_)
  | ((with_reducible show EvK _ _ (Expr.BinOp _ Operator.FloorDiv _ _) _ _ _); refine k_bin fdiv_ok ?_)
  | ((with_reducible show EvK _ _ (Expr.BinOp _ Operator.Pow _ _) _ _ _); refine k_bin pow_ok ?_))
local macro_rules | `(tactic| walk_at "g_EvK_Compare") => `(tactic| first
  | ((with_reducible show EvK _ _ (Expr.Compare _ [CmpOp.Is] _ _) _ _ _); refine k_isN ?_)
  | ((with_reducible show EvK _ _ (Expr.Compare _ [CmpOp.IsNot] _ _) _ _ _); refine k_notN ?_)
  | ((with_reducible show EvK _ _ (Expr.Compare _ [CmpOp.LtE, CmpOp.LtE] _ _) _ _ _); refine k_chain le_ok le_ok ?_)
  | ((with_reducible show EvK _ _ (Expr.Compare _ [CmpOp.In] [Expr.Name _ _] _) _ _ _); (first | refine k_inT (XAt.o (by walk_at "at")) (by walk_at "nm") (by constructor) ?_ | refine k_cmpB in_ok ?_ inB_mono (by rfl)))
  | ((with_reducible show EvK _ _ (Expr.Compare _ [CmpOp.In] _ _) _ _ _); refine k_cmpB in_ok ?_ inB_mono (by rfl))
  | ((with_reducible show EvK _ _ (Expr.Compare _ [CmpOp.NotIn] [Expr.Name _ _] _) _ _ _); (first | refine k_ninT (XAt.o (by walk_at "at")) (by walk_at "nm") (by constructor) ?_ | refine k_cmpB nin_ok ?_ ninB_mono (by rfl)))
  | ((with_reducible show EvK _ _ (Expr.Compare _ [CmpOp.NotIn] _ _) _ _ _); refine k_cmpB nin_ok ?_ ninB_mono (by rfl))
  | ((with_reducible show EvK _ _ (Expr.Compare _ [CmpOp.Eq] [Expr.Tuple [] _ _] _) _ _ _); refine k_cmp eqT_ok ?_ (by rfl))
  | ((with_reducible show EvK _ _ (Expr.Compare (Expr.Name _ _) [CmpOp.Eq] _ _) _ _ _); (first | refine k_cmpB eq_ok (b_own (by walk_at "at") (by walk_at "nm") (by constructor) (b_of_k ?_)) eqB_mono (nomark _) | refine k_cmp eq_ok ?_ (nomark _)))
  | ((with_reducible show EvK _ _ (Expr.Compare (Expr.Name _ _) [CmpOp.NotEq] _ _) _ _ _); (first | refine k_cmpB ne_ok (b_own (by walk_at "at") (by walk_at "nm") (by constructor) (b_of_k ?_)) neB_mono (nomark _) | refine k_cmp ne_ok ?_ (nomark _)))
  | ((with_reducible show EvK _ _ (Expr.Compare _ [CmpOp.Eq] _ _) _ _ _); refine k_cmp eq_ok ?_ (nomark _))
  | ((with_reducible show EvK _ _ (Expr.Compare _ [CmpOp.NotEq] _ _) _ _ _); refine k_cmp ne_ok ?_ (nomark _))
  | ((with_reducible show EvK _ _ (Expr.Compare _ [CmpOp.Lt] _ _) _ _ _); refine k_cmp lt_ok ?_ (nomark _))
  | ((with_reducible show EvK _ _ (Expr.Compare _ [CmpOp.LtE] _ _) _ _ _); refine k_cmp le_ok ?_ (nomark _))
  | ((with_reducible show EvK _ _ (Expr.Compare _ [CmpOp.Gt] _ _) _ _ _); refine k_cmp gt_ok ?_ (nomark _))
  | ((with_reducible show EvK _ _ (Expr.Compare _ [CmpOp.GtE] _ _) _ _ _); refine k_cmp ge_ok ?_ (nomark _)))
local macro_rules | `(tactic| walk_at "g_EvK_BoolOp") => `(tactic| first
  | ((with_reducible show EvK _ _ (Expr.BoolOp BoolOp.And (_ :: _ :: _) _) _ _ _); refine k_and ?_)
  | ((with_reducible show EvK _ _ (Expr.BoolOp BoolOp.Or (_ :: _ :: _) _) _ _ _); refine k_or ?_)
  | ((with_reducible show EvK _ _ (Expr.BoolOp _ [_] _) _ _ _); refine k_one ?_))
local macro_rules | `(tactic| walk_at "g_EvK_UnaryOp") => `(tactic| first
  | ((with_reducible show EvK _ _ (Expr.UnaryOp UnaryOp.USub (Expr.Constant (Const.int _) _ _) _) _ _ _); (refine k_neg ?_; refine k_int ?_; refine ⟨_, rfl, ?_⟩))
  | ((with_reducible show EvK _ _ (Expr.UnaryOp UnaryOp.USub _ _) _ _ _); refine k_neg ?_)
  | ((with_reducible show EvK _ _ (Expr.UnaryOp UnaryOp.Not _ _) _ _ _); refine k_notV ?_))
local macro_rules | `(tactic| walk_at "g_EvK_Dict") => `(tactic| first
  | ((with_reducible show EvK _ _ (Expr.Dict [] [] _) _ _ _); refine k_dnil ?_)
  | ((with_reducible show EvK _ _ (Expr.Dict [some (Expr.Constant (Const.str _) _ _)] [_] _) _ _ _); refine k_disp1 ?_)
  | ((with_reducible show EvK _ _ (Expr.Dict [some (Expr.Constant (Const.str _) _ _), some (Expr.Constant (Const.str _) _ _)] [_, _] _) _ _ _); refine k_disp2 ?_))
local macro_rules | `(tactic| walk_at "g_EvK_Subscript") => `(tactic| first
  | ((with_reducible show EvK _ _ (Expr.Subscript (Expr.Dict _ _ _) _ _) _ _ _); refine k_dgetE ?_)
  | ((with_reducible show EvK _ _ (Expr.Subscript _ (Expr.Slice _ _ none _) _) _ _ _); refine k_sl ?_)
  | ((with_reducible show EvK _ _ (Expr.Subscript _ (Expr.Slice none none (some (Expr.UnaryOp UnaryOp.USub (Expr.Constant (Const.int 1) _ _) _)) _) _) _ _ _); refine k_revT ?_)
  | ((with_reducible show EvK _ _ (Expr.Subscript (Expr.Name _ _) _ _) _ _ _); (first | refine k_ixO (by walk_at "at") (by walk_at "nm") (by constructor) ?_ | refine k_dgetN (by walk_at "at") (by walk_at "nm") (by constructor) ?_ | refine k_ix ?_))
  | ((with_reducible show EvK _ _ (Expr.Subscript _ _ _) _ _ _); refine k_ix ?_))
local macro_rules | `(tactic| walk_at "g_EvK_Call") => `(tactic| first
  | ((with_reducible show EvK _ _ (Expr.Call (Expr.Attribute _ "index" _) _ _ _) _ _ _); refine k_m1 PySem.F.slot_str_index PySem.F.type_str_index six_ok ?_)
  | ((with_reducible show EvK _ _ (Expr.Call (Expr.Attribute _ "join" _) _ _ _) _ _ _); refine k_m1 PySem.F.slot_str_join PySem.F.type_str_join join_ok ?_)
  | ((with_reducible show EvK _ _ (Expr.Call (Expr.Name "len" _) [Expr.Name _ _] _ _) _ _ _); (first | refine k_lenO (by walk_at "at") (by walk_at "nm") (by constructor) (by walk_at "nm") (by walk_at "asm") ?_ | refine k_lenX (XAt.o (by walk_at "at")) (by walk_at "nm") (by constructor) (by walk_at "nm") (by walk_at "asm") ?_ | refine k_callB len_ok (by walk_at "nm") (by walk_at "asm") bb_len ?_))
  | ((with_reducible show EvK _ _ (Expr.Call (Expr.Attribute (Expr.Name _ _) "get" _) [_] _ _) _ _ _); refine k_getX (XAt.o (by walk_at "at")) (by walk_at "nm") (by constructor) ?_)
  | ((with_reducible show EvK _ _ (Expr.Call (Expr.Name "max" _) [_] [_] _) _ _ _); refine k_maxD (by walk_at "nm") (by walk_at "asm") ?_)
  | ((with_reducible show EvK _ _ (Expr.Call (Expr.Name "min" _) [_] [] _) _ _ _); refine k_callB min_ok (by walk_at "nm") (by walk_at "asm") bb_min ?_)
  | ((with_reducible show EvK _ _ (Expr.Call (Expr.Name "max" _) [_, _] _ _) _ _ _); refine k_callB max_ok (by walk_at "nm") (by walk_at "asm") bb_max ?_)
  | ((with_reducible show EvK _ _ (Expr.Call (Expr.Name "list" _) [Expr.Call (Expr.Name "range" _) [_] _ _] _ _) _ _ _); refine k_of_n (n_listRg1 (by walk_at "nm") (by walk_at "asm") (by walk_at "nm") (by walk_at "asm") ?_))
  | ((with_reducible show EvK _ _ (Expr.Call (Expr.Name "list" _) [Expr.Call (Expr.Name "range" _) [_, _] _ _] _ _) _ _ _); refine k_of_n (n_listRg2 (by walk_at "nm") (by walk_at "asm") (by walk_at "nm") (by walk_at "asm") ?_))
  | ((with_reducible show EvK _ _ (Expr.Call (Expr.Name "list" _) [Expr.Call (Expr.Name _ _) (_ :: _) _ _] _ _) _ _ _); refine k_of_n (n_listG (by walk_at "asm") (by walk_at "nm") (by walk_at "nm") (by walk_at "asm") ?_))
  | ((with_reducible show EvK _ _ (Expr.Call (Expr.Name "tuple" _) [Expr.Call (Expr.Name "range" _) [_] _ _] _ _) _ _ _); refine k_tupRg1 (by walk_at "nm") (by walk_at "asm") (by walk_at "nm") (by walk_at "asm") ?_)
  | ((with_reducible show EvK _ _ (Expr.Call (Expr.Name "len" _) _ _ _) _ _ _); refine k_callB len_ok (by walk_at "nm") (by walk_at "asm") bb_len ?_)
  | ((with_reducible show EvK _ _ (Expr.Call (Expr.Name "sum" _) _ _ _) _ _ _); refine k_callB sum_ok (by walk_at "nm") (by walk_at "asm") bb_sum ?_)
  | ((with_reducible show EvK _ _ (Expr.Call (Expr.Name "repr" _) _ _ _) _ _ _); refine k_callB repr_ok (by walk_at "nm") (by walk_at "asm") bb_repr ?_)
  | ((with_reducible show EvK _ _ (Expr.Call (Expr.Name "abs" _) _ _ _) _ _ _); refine k_callB abs_ok (by walk_at "nm") (by walk_at "asm") bb_abs ?_)
  | ((with_reducible show EvK _ _ (Expr.Call (Expr.Name "sorted" _) [_] _ _) _ _ _); refine k_callB sort_ok (by walk_at "nm") (by walk_at "asm") bb_sorted ?_)
  | ((with_reducible show EvK _ _ (Expr.Call (Expr.Name "isinstance" _) [_, _] _ _) _ _ _); refine k_callB isi_ok (by walk_at "nm") (by walk_at "asm") bb_isinstance ?_)
  | ((with_reducible show EvK _ _ (Expr.Call (Expr.Name "int" _) _ _ _) _ _ _); refine k_callTy int_ok (by walk_at "nm") (by walk_at "asm") bb_int ?_)
  | ((with_reducible show EvK _ _ (Expr.Call (Expr.Name "tuple" _) _ _ _) _ _ _); refine k_callTy tuple_ok (by walk_at "nm") (by walk_at "asm") bb_tuple ?_)
  | ((with_reducible show EvK _ _ (Expr.Call (Expr.Name "list" _) _ _ _) _ _ _); refine k_callTy list_ok (by walk_at "nm") (by walk_at "asm") bb_list ?_)
  | ((with_reducible show EvK _ _ (Expr.Call (Expr.Name "dict" _) _ _ _) _ _ _); refine k_callTy dict_ok (by walk_at "nm") (by walk_at "asm") bb_dict ?_)
  | ((with_reducible show EvK _ _ (Expr.Call (Expr.Name _ _) _ _ _) _ _ _); (first | refine k_call (by walk_at "asm") (by walk_at "nm") ?_ | refine k_callX (by walk_at "asm") (by walk_at "nm") ?_)))
local macro_rules | `(tactic| walk_at "j_EvK") => `(tactic| first
  | ((with_reducible show EvK _ _ (Expr.Name _ _) _ _ _); first | refine k_var (by walk_at "at") (by walk_at "nm") (by constructor) ?_ | refine k_globS (by walk_at "nm") (by walk_at "asm") ?_ | refine k_globI (by walk_at "nm") (by walk_at "asm") ?_ | refine k_globT (by walk_at "nm") (by walk_at "asm") (by walk_at "asm") ?_ | refine k_ty (by walk_at "nm") (by walk_at "asm") bb_tuple ?_ | refine k_ty (by walk_at "nm") (by walk_at "asm") bb_int ?_ | refine k_ty (by walk_at "nm") (by walk_at "asm") bb_str ?_ | refine k_ty (by walk_at "nm") (by walk_at "asm") bb_bool ?_)
  | ((with_reducible show EvK _ _ (Expr.Constant _ _ _) _ _ _); walk_at "g_EvK_Constant")
  | ((with_reducible show EvK _ _ (Expr.BinOp _ _ _ _) _ _ _); walk_at "g_EvK_BinOp")
  | ((with_reducible show EvK _ _ (Expr.Compare _ _ _ _) _ _ _); walk_at "g_EvK_Compare")
  | ((with_reducible show EvK _ _ (Expr.BoolOp _ _ _) _ _ _); walk_at "g_EvK_BoolOp")
  | ((with_reducible show EvK _ _ (Expr.UnaryOp _ _ _) _ _ _); walk_at "g_EvK_UnaryOp")
  | ((with_reducible show EvK _ _ (Expr.IfExp _ _ _ _) _ _ _); refine k_if ?_)
  | ((with_reducible show EvK _ _ (Expr.ListComp _ [_] _ _) _ _ _); refine k_of_n (n_l ?_))
  | ((with_reducible show EvK _ _ (Expr.Dict _ _ _) _ _ _); walk_at "g_EvK_Dict")
  | ((with_reducible show EvK _ _ (Expr.Subscript _ _ _) _ _ _); walk_at "g_EvK_Subscript")
  | ((with_reducible show EvK _ _ (Expr.Tuple _ _ _) _ _ _); refine k_tup ?_)
  | ((with_reducible show EvK _ _ (Expr.List _ _) _ _ _); refine k_lst ?_)
  | ((with_reducible show EvK _ _ (Expr.Call _ _ _ _) _ _ _); walk_at "g_EvK_Call")
  | ((with_reducible show EvK _ _ (Expr.Attribute _ _ _) _ _ _); (first | refine k_xf (by walk_at "asm") (by walk_at "asm") rfl ?_ | refine k_fldH ?_)))
local macro_rules | `(tactic| walk_at "g_EvT_Compare") => `(tactic| first
  | ((with_reducible show EvT _ _ (Expr.Compare _ [CmpOp.LtE, CmpOp.LtE] _ _) _ _ _); refine t_chain le_ok le_ok ?_)
  | ((with_reducible show EvT _ _ (Expr.Compare _ [CmpOp.Is] _ _) _ _ _); refine t_isN ?_)
  | ((with_reducible show EvT _ _ (Expr.Compare _ [CmpOp.IsNot] _ _) _ _ _); refine t_notN ?_)
  | ((with_reducible show EvT _ _ (Expr.Compare _ [CmpOp.NotIn] [Expr.Call (Expr.Name "range" _) [_] _ _] _) _ _ _); refine t_ninR (by walk_at "nm") (by walk_at "asm") ?_)
  | ((with_reducible show EvT _ _ (Expr.Compare _ [CmpOp.In] [Expr.Name _ _] _) _ _ _); (first | refine t_inT (XAt.o (by walk_at "at")) (by walk_at "nm") (by constructor) ?_ | refine t_cmpB in_ok ?_ inB_mono (by rfl)))
  | ((with_reducible show EvT _ _ (Expr.Compare _ [CmpOp.In] _ _) _ _ _); refine t_cmpB in_ok ?_ inB_mono (by rfl))
  | ((with_reducible show EvT _ _ (Expr.Compare _ [CmpOp.NotIn] [Expr.Name _ _] _) _ _ _); (first | refine t_ninT (XAt.o (by walk_at "at")) (by walk_at "nm") (by constructor) ?_ | refine t_cmpB nin_ok ?_ ninB_mono (by rfl)))
  | ((with_reducible show EvT _ _ (Expr.Compare _ [CmpOp.NotIn] _ _) _ _ _); refine t_cmpB nin_ok ?_ ninB_mono (by rfl))
  | ((with_reducible show EvT _ _ (Expr.Compare _ [CmpOp.Eq] [Expr.Tuple [] _ _] _) _ _ _); refine t_cmp eqT_ok ?_ (by rfl))
  | ((with_reducible show EvT _ _ (Expr.Compare (Expr.Name _ _) [CmpOp.Eq] _ _) _ _ _); (first | refine t_cmpB eq_ok (b_own (by walk_at "at") (by walk_at "nm") (by constructor) (b_of_k ?_)) eqB_mono (nomark _) | refine t_cmp eq_ok ?_ (nomark _)))
  | ((with_reducible show EvT _ _ (Expr.Compare (Expr.Name _ _) [CmpOp.NotEq] _ _) _ _ _); (first | refine t_cmpB ne_ok (b_own (by walk_at "at") (by walk_at "nm") (by constructor) (b_of_k ?_)) neB_mono (nomark _) | refine t_cmp ne_ok ?_ (nomark _)))
  | ((with_reducible show EvT _ _ (Expr.Compare _ [CmpOp.Eq] _ _) _ _ _); refine t_cmp eq_ok ?_ (nomark _))
  | ((with_reducible show EvT _ _ (Expr.Compare _ [CmpOp.NotEq] _ _) _ _ _); refine t_cmp ne_ok ?_ (nomark _))
  | ((with_reducible show EvT _ _ (Expr.Compare _ [CmpOp.Lt] _ _) _ _ _); refine t_cmp lt_ok ?_ (nomark _))
  | ((with_reducible show EvT _ _ (Expr.Compare _ [CmpOp.LtE] _ _) _ _ _); refine t_cmp le_ok ?_ (nomark _))
  | ((with_reducible show EvT _ _ (Expr.Compare _ [CmpOp.Gt] _ _) _ _ _); refine t_cmp gt_ok ?_ (nomark _))
  | ((with_reducible show EvT _ _ (Expr.Compare _ [CmpOp.GtE] _ _) _ _ _); refine t_cmp ge_ok ?_ (nomark _)))
local macro_rules | `(tactic| walk_at "j_EvT") => `(tactic| first
  | ((with_reducible show EvT _ _ (Expr.Compare _ _ _ _) _ _ _); walk_at "g_EvT_Compare")
  | ((with_reducible show EvT _ _ (Expr.BoolOp _ _ _) _ _ _); refine t_of_w ?_)
  | ((with_reducible show EvT _ _ (Expr.UnaryOp UnaryOp.Not _ _) _ _ _); refine t_not ?_)
  | ((with_reducible show EvT _ _ _ _ _ _); refine t_val ?_))
local macro_rules | `(tactic| walk_at "j_EvB") => `(tactic| first
  | ((with_reducible show EvB _ _ (Expr.Name _ _) _ _ _); (first | refine b_own (by walk_at "at") (by walk_at "nm") (by constructor) ?_ | refine b_ownD (by walk_at "at") (by walk_at "nm") (by constructor) ?_ | refine b_of_k ?_))
  | ((with_reducible show EvB _ _ _ _ _ _); refine b_of_k ?_))
local macro_rules | `(tactic| walk_at "g_EvW_BoolOp") => `(tactic| first
  | ((with_reducible show EvW _ _ (Expr.BoolOp BoolOp.And (_ :: _ :: _) _) _ _ _); refine w_and ?_)
  | ((with_reducible show EvW _ _ (Expr.BoolOp BoolOp.Or (_ :: _ :: _) _) _ _ _); refine w_or ?_)
  | ((with_reducible show EvW _ _ (Expr.BoolOp _ [_] _) _ _ _); refine w_one _ ?_))
local macro_rules | `(tactic| walk_at "j_EvW") => `(tactic| first
  | ((with_reducible show EvW _ _ (Expr.BoolOp _ _ _) _ _ _); walk_at "g_EvW_BoolOp"))
local macro_rules | `(tactic| walk_at "g_EvN_BinOp") => `(tactic| first
  | ((with_reducible show EvN _ _ (Expr.BinOp (Expr.Name _ _) Operator.Add _ _) _ _ _); (first | refine n_catO (by walk_at "spl") (by walk_at "at") (by walk_at "nm") (by constructor) ?_ | refine n_cat ?_))
  | ((with_reducible show EvN _ _ (Expr.BinOp _ Operator.Add _ _) _ _ _); refine n_cat ?_)
  | ((with_reducible show EvN _ _ (Expr.BinOp _ Operator.Mult _ _) _ _ _); refine n_mul ?_))
local macro_rules | `(tactic| walk_at "g_EvN_Call") => `(tactic| first
  | ((with_reducible show EvN _ _ (Expr.Call (Expr.Name "list" _) [Expr.Call (Expr.Name "range" _) [_] _ _] _ _) _ _ _); refine n_listRg1 (by walk_at "nm") (by walk_at "asm") (by walk_at "nm") (by walk_at "asm") ?_)
  | ((with_reducible show EvN _ _ (Expr.Call (Expr.Name "list" _) [Expr.Call (Expr.Name "range" _) [_, _] _ _] _ _) _ _ _); refine n_listRg2 (by walk_at "nm") (by walk_at "asm") (by walk_at "nm") (by walk_at "asm") ?_)
  | ((with_reducible show EvN _ _ (Expr.Call (Expr.Name "list" _) [Expr.Call (Expr.Name _ _) (_ :: _) _ _] _ _) _ _ _); refine n_listG (by walk_at "asm") (by walk_at "nm") (by walk_at "nm") (by walk_at "asm") ?_)
  | ((with_reducible show EvN _ _ (Expr.Call (Expr.Name "list" _) [_] _ _) _ _ _); refine n_list (x := "") (by walk_at "nm") (by walk_at "asm") ?_))
local macro_rules | `(tactic| walk_at "j_EvN") => `(tactic| first
  | ((with_reducible show EvN _ _ (Expr.BinOp _ _ _ _) _ _ _); walk_at "g_EvN_BinOp")
  | ((with_reducible show EvN _ _ (Expr.Call _ _ _ _) _ _ _); walk_at "g_EvN_Call")
  | ((with_reducible show EvN _ _ (Expr.IfExp _ _ _ _) _ _ _); refine n_if ?_)
  | ((with_reducible show EvN _ _ (Expr.List _ _) _ _ _); refine n_lst ?_)
  | ((with_reducible show EvN _ _ (Expr.ListComp _ [_] _ _) _ _ _); refine n_l ?_))
local macro_rules | `(tactic| walk_at "g_StK_Assign") => `(tactic| first
  | ((with_reducible show StK _ _ (Stmt.Assign [Expr.Tuple [Expr.Name _ _, Expr.Name _ _, Expr.Name _ _] _ _] (Expr.Tuple [_, Expr.List [] _, Expr.List [] _] _ _) _) _ _ _); refine s_unp3NN (by walk_at "spl") (fun _ => (by walk_at "spl")) (fun _ _ => (by walk_at "spl")) (by walk_at "nm") (by walk_at "nm") (by walk_at "nm") ?_)
  | ((with_reducible show StK _ _ (Stmt.Assign [Expr.Name _ _] (Expr.Call (Expr.Attribute (Expr.Name _ _) "pop" _) [] [] _) _) _ _ _); refine s_setM (by walk_at "nm") (by constructor) (m_pop (by walk_at "spl") (by walk_at "at") (by walk_at "nm") (by constructor) ?_) ⟨_, (by walk_at "at")⟩)
  | ((with_reducible show StK _ _ (Stmt.Assign [Expr.Tuple [Expr.Name _ _, Expr.Name _ _] _ _] (Expr.Call (Expr.Attribute (Expr.Name _ _) "pop" _) [] [] _) _) _ _ _); refine s_unpM2 (m_pop (by walk_at "spl") (by walk_at "at") (by walk_at "nm") (by constructor) ?_))
  | ((with_reducible show StK _ _ (Stmt.Assign [Expr.Subscript (Expr.Name _ _) _ _] _ _) _ _ _); (first | refine s_setI (by walk_at "spl") (by walk_at "at") (by walk_at "nm") (by constructor) ?_ | refine s_dput (by walk_at "spl") (by walk_at "at") (by walk_at "nm") (by constructor) ?_ | refine s_putX (by walk_at "spl") (by walk_at "at") (by walk_at "nm") (by constructor) ?_))
  | ((with_reducible show StK _ _ (Stmt.Assign [Expr.Tuple [Expr.Name _ _, Expr.Name _ _] _ _] (Expr.Tuple [Expr.Dict _ _ _, _] _ _) _) _ _ _); with_reducible refine s_parX (hst := (by intro _; with_unfolding_all rfl)) (hst2 := (by intro _; with_unfolding_all rfl)) (hp := (by with_unfolding_all rfl)) (hxy := (by decide +kernel)) (ha := (by with_unfolding_all rfl)) (hb := (by with_unfolding_all rfl)) (f1 := (by decide +kernel)) (f2 := (by decide +kernel)) (hs := (by intro _; with_unfolding_all rfl)) (by walk_at "spl") (fun _ => (by walk_at "spl")) (by walk_at "nm") (by walk_at "nm") ?_)
  | ((with_reducible show StK _ _ (Stmt.Assign [Expr.Tuple [Expr.Name _ _, Expr.Name _ _] _ _] (Expr.Tuple [_, Expr.Dict _ _ _] _ _) _) _ _ _); with_reducible refine s_parX (hst := (by intro _; with_unfolding_all rfl)) (hst2 := (by intro _; with_unfolding_all rfl)) (hp := (by with_unfolding_all rfl)) (hxy := (by decide +kernel)) (ha := (by with_unfolding_all rfl)) (hb := (by with_unfolding_all rfl)) (f1 := (by decide +kernel)) (f2 := (by decide +kernel)) (hs := (by intro _; with_unfolding_all rfl)) (by walk_at "spl") (fun _ => (by walk_at "spl")) (by walk_at "nm") (by walk_at "nm") ?_)
  | ((with_reducible show StK _ _ (Stmt.Assign [Expr.Tuple [Expr.Name _ _, Expr.Name _ _, Expr.Name _ _] _ _] (Expr.Tuple [Expr.Dict _ _ _, _, _] _ _) _) _ _ _); with_reducible refine s_par3X (hst := (by intro _; with_unfolding_all rfl)) (hst2 := (by intro _; with_unfolding_all rfl)) (hst3 := (by intro _; with_unfolding_all rfl)) (hp := (by with_unfolding_all rfl)) (hp2 := (by with_unfolding_all rfl)) (hxy := (by decide +kernel)) (hxz := (by decide +kernel)) (hyz := (by decide +kernel)) (ha := (by with_unfolding_all rfl)) (hb := (by with_unfolding_all rfl)) (hc := (by with_unfolding_all rfl)) (f1 := (by decide +kernel)) (f2 := (by decide +kernel)) (hs := (by intro _; with_unfolding_all rfl)) (by walk_at "spl") (fun _ => (by walk_at "spl")) (fun _ _ => (by walk_at "spl")) (by walk_at "nm") (by walk_at "nm") (by walk_at "nm") ?_)
  | ((with_reducible show StK _ _ (Stmt.Assign [Expr.Tuple [Expr.Name _ _, Expr.Name _ _, Expr.Name _ _] _ _] (Expr.Tuple [_, _, Expr.List [] _] _ _) _) _ _ _); with_reducible refine s_par3X (hst := (by intro _; with_unfolding_all rfl)) (hst2 := (by intro _; with_unfolding_all rfl)) (hst3 := (by intro _; with_unfolding_all rfl)) (hp := (by with_unfolding_all rfl)) (hp2 := (by with_unfolding_all rfl)) (hxy := (by decide +kernel)) (hxz := (by decide +kernel)) (hyz := (by decide +kernel)) (ha := (by with_unfolding_all rfl)) (hb := (by with_unfolding_all rfl)) (hc := (by with_unfolding_all rfl)) (f1 := (by decide +kernel)) (f2 := (by decide +kernel)) (hs := (by intro _; with_unfolding_all rfl)) (by walk_at "spl") (fun _ => (by walk_at "spl")) (fun _ _ => (by walk_at "spl")) (by walk_at "nm") (by walk_at "nm") (by walk_at "nm") ?_)
  | ((with_reducible show StK _ _ (Stmt.Assign [Expr.Tuple [Expr.Name _ _, Expr.Name _ _] _ _] (Expr.Tuple [Expr.Call (Expr.Attribute (Expr.Name _ _) "pop" _) [_] [] _, Expr.List [] _] _ _) _) _ _ _); with_reducible refine s_parM (hst := (by intro _; with_unfolding_all rfl)) (hst2 := (by intro _; with_unfolding_all rfl)) (hp := (by with_unfolding_all rfl)) (hxy := (by decide +kernel)) (ha := (by with_unfolding_all rfl)) (hb := (by with_unfolding_all rfl)) (f1 := (by decide +kernel)) (f2 := (by decide +kernel)) (hs := (by intro _; with_unfolding_all rfl)) (by walk_at "nm") (by walk_at "nm") ⟨_, (by walk_at "at")⟩ ⟨_, (by walk_at "at")⟩ ?_; refine m_popAt (by walk_at "spl") (by walk_at "at") (by walk_at "nm") (by constructor) ?_)
  | ((with_reducible show StK _ _ (Stmt.Assign [Expr.Name _ _] (Expr.Dict [] [] _) _) _ _ _); refine s_dnew (by walk_at "spl") (by walk_at "nm") (by constructor) ?_)
  | ((with_reducible show StK _ _ (Stmt.Assign [Expr.Name _ _] (Expr.Call (Expr.Name "list" _) [_] _ _) _) _ _ _); refine s_setN (by walk_at "spl") (by walk_at "nm") (by constructor) ?_)
  | ((with_reducible show StK _ _ (Stmt.Assign [Expr.Name _ _] (Expr.List [] _) _) _ _ _); refine s_setN (by walk_at "spl") (by walk_at "nm") (by constructor) ?_)
  | ((with_reducible show StK _ _ (Stmt.Assign [Expr.Name _ _] (Expr.ListComp _ [_] _ _) _) _ _ _); refine s_setLc (by walk_at "spl") (by walk_at "nm") ?_)
  | ((with_reducible show StK _ _ (Stmt.Assign [Expr.Name _ _] _ _) _ _ _); refine s_set (by walk_at "spl") (by walk_at "nm") (by constructor) ?_)
  | ((with_reducible show StK _ _ (Stmt.Assign [Expr.Tuple [Expr.Name _ _, Expr.Name _ _] _ _] (Expr.Tuple [Expr.List [] _, Expr.List [] _] _ _) _) _ _ _); refine s_parNN (by walk_at "spl") (fun _ => (by walk_at "spl")) (by walk_at "nm") (by walk_at "nm") ?_)
  | ((with_reducible show StK _ _ (Stmt.Assign [Expr.Tuple [Expr.Name _ _, Expr.Name _ _] _ _] (Expr.Tuple [_, Expr.List [] _] _ _) _) _ _ _); refine s_parN (by walk_at "spl") (fun _ => (by walk_at "spl")) (by walk_at "nm") (by walk_at "nm") ?_)
  | ((with_reducible show StK _ _ (Stmt.Assign [Expr.Tuple [Expr.Name _ _, Expr.Name _ _] _ _] (Expr.Tuple [_, _] _ _) _) _ _ _); (first | refine s_par (by walk_at "spl") (fun _ => (by walk_at "spl")) (by walk_at "nm") (by walk_at "nm") ?_ | refine s_unpC2 (Or.inl (by walk_at "nm")) ?_ | refine s_unpC2 (Or.inr (by walk_at "nm")) ?_))
  | ((with_reducible show StK _ _ (Stmt.Assign [Expr.Tuple [Expr.Name _ _, Expr.Name _ _] _ _] _ _) _ _ _); refine s_unp2 ?_)
  | ((with_reducible show StK _ _ (Stmt.Assign [Expr.Tuple [Expr.Name _ _, Expr.Name _ _, Expr.Name _ _] _ _] _ _) _ _ _); refine s_unp3 ?_)
  | ((with_reducible show StK _ _ (Stmt.Assign [Expr.Tuple _ _ _] _ _) _ _ _); refine s_unp ?_))
local macro_rules | `(tactic| walk_at "g_StK_Expr") => `(tactic| first
  | ((with_reducible show StK _ _ (Stmt.Expr (Expr.Call (Expr.Attribute (Expr.Name _ _) "append" _) [Expr.Call (Expr.Attribute (Expr.Name _ _) "pop" _) [] [] _] [] _) _) _ _ _); refine s_appM (by walk_at "spl") (by walk_at "at") (by walk_at "nm") (by constructor) (m_pop (by walk_at "spl") (by walk_at "at") (by walk_at "nm") (by constructor) ?_))
  | ((with_reducible show StK _ _ (Stmt.Expr (Expr.Call (Expr.Attribute (Expr.Name _ _) "append" _) [Expr.Call (Expr.Attribute (Expr.Name _ _) "pop" _) [_] [] _] [] _) _) _ _ _); refine s_appM (by walk_at "spl") (by walk_at "at") (by walk_at "nm") (by constructor) (m_popAt (by walk_at "spl") (by walk_at "at") (by walk_at "nm") (by constructor) ?_))
  | ((with_reducible show StK _ _ (Stmt.Expr (Expr.Call (Expr.Attribute (Expr.Name _ _) "append" _) [_] [] _) _) _ _ _); refine s_app (by walk_at "spl") (by walk_at "at") (by walk_at "nm") (by constructor) ?_)
  | ((with_reducible show StK _ _ (Stmt.Expr (Expr.Call (Expr.Attribute (Expr.Name _ _) "extend" _) [Expr.Name _ _] [] _) _) _ _ _); refine s_extT (by walk_at "spl") (by walk_at "at") (by walk_at "nm") (by constructor) ?_)
  | ((with_reducible show StK _ _ (Stmt.Expr (Expr.Call (Expr.Attribute (Expr.Name _ _) "extend" _) [Expr.Subscript _ _ _] [] _) _) _ _ _); refine s_extT (by walk_at "spl") (by walk_at "at") (by walk_at "nm") (by constructor) ?_)
  | ((with_reducible show StK _ _ (Stmt.Expr (Expr.Call (Expr.Attribute (Expr.Name _ _) "extend" _) [_] [] _) _) _ _ _); refine s_ext (by walk_at "spl") (by walk_at "at") (by walk_at "nm") (by constructor) ?_))
local macro_rules | `(tactic| walk_at "g_StK_AugAssign") => `(tactic| first
  | ((with_reducible show StK _ _ (Stmt.AugAssign (Expr.Name _ _) Operator.Add _ _) _ _ _); refine s_augN (by walk_at "spl") (by walk_at "at") (by walk_at "nm") (by constructor) ?_)
  | ((with_reducible show StK _ _ (Stmt.AugAssign (Expr.Subscript (Expr.Name _ _) _ _) Operator.Add _ _) _ _ _); refine s_augI (by walk_at "spl") (by walk_at "at") (by walk_at "nm") (by constructor) ?_))
local macro_rules | `(tactic| walk_at "j_StK") => `(tactic| first
  | ((with_reducible show StK _ _ (Stmt.Assign _ _ _) _ _ _); walk_at "g_StK_Assign")
  | ((with_reducible show StK _ _ (Stmt.Raise (some _) none _) _ _ _); refine s_raise ?_)
  | ((with_reducible show StK _ _ (Stmt.Expr _ _) _ _ _); walk_at "g_StK_Expr")
  | ((with_reducible show StK _ _ (Stmt.AugAssign _ _ _ _) _ _ _); walk_at "g_StK_AugAssign")
  | ((with_reducible show StK _ _ (Stmt.Return (some _) _) _ _ _); refine s_ret ?_)
  | ((with_reducible show StK _ _ (Stmt.If _ _ _ _) _ _ _); refine s_if ?_))
local macro_rules | `(tactic| walk_at "j_EvA") => `(tactic| first
  | ((with_reducible show EvA _ _ [] _ _ _); refine a_nil ?_)
  | ((with_reducible show EvA _ _ (_ :: _) _ _ _); refine a_cons ?_))
local macro_rules | `(tactic| walk_at "j_EvO") => `(tactic| first
  | ((with_reducible show EvO _ _ none _ _ _); refine o_none ?_)
  | ((with_reducible show EvO _ _ (some _) _ _ _); refine o_some ?_))
local macro_rules | `(tactic| walk_at "g_MkK_Call") => `(tactic| first
  | ((with_reducible show MkK _ _ (Expr.Call (Expr.Name _ _) [] _ _) _ _ _); refine mk_none (by walk_at "asm") (by walk_at "nm") ?_)
  | ((with_reducible show MkK _ _ (Expr.Call (Expr.Name _ _) [_] _ _) _ _ _); refine mk_one (by walk_at "asm") (by walk_at "nm") ?_))
local macro_rules | `(tactic| walk_at "j_MkK") => `(tactic| first
  | ((with_reducible show MkK _ _ (Expr.Call _ _ _ _) _ _ _); walk_at "g_MkK_Call"))
local macro_rules | `(tactic| walk_at "j_RunK") => `(tactic| first
  | ((with_reducible show RunK _ _ [] _ _ _); refine r_nil ?_)
  | ((with_reducible show RunK _ _ _ _ _ _); (first | refine r_consC ?_ | refine r_cons ?_)))
local macro_rules | `(tactic| walk_at "g_EvX_Dict") => `(tactic| first
  | ((with_reducible show EvX _ _ (Expr.Dict [] [] _) _ _ _); refine x_new0 ?_)
  | ((with_reducible show EvX _ _ (Expr.Dict [_] [_] _) _ _ _); refine x_new1 ?_))
local macro_rules | `(tactic| walk_at "j_EvX") => `(tactic| first
  | ((with_reducible show EvX _ _ (Expr.List _ _) _ _ _); refine x_own ?_)
  | ((with_reducible show EvX _ _ (Expr.Dict _ _ _) _ _ _); walk_at "g_EvX_Dict")
  | ((with_reducible show EvX _ _ _ _ _ _); refine x_dat ?_))
local macro_rules | `(tactic| walk_at "g_EvI_Tuple") => `(tactic| first
  | ((with_reducible show EvI _ _ (Expr.Tuple _ _ _) (Expr.Call (Expr.Name "zip" _) [_, _] _ _) _ _ _); refine i_zip (by walk_at "nm") (by walk_at "asm") ?_)
  | ((with_reducible show EvI _ _ (Expr.Tuple _ _ _) (Expr.Call (Expr.Name "enumerate" _) [_] _ _) _ _ _); refine i_enum (by walk_at "nm") (by walk_at "asm") ?_))
local macro_rules | `(tactic| walk_at "j_EvI") => `(tactic| first
  | ((with_reducible show EvI _ _ (Expr.Tuple _ _ _) _ _ _ _); walk_at "g_EvI_Tuple")
  | ((with_reducible show EvI _ _ _ (Expr.Call (Expr.Name "range" _) [_] _ _) _ _ _); refine i_rng1 (by walk_at "nm") (by walk_at "asm") ?_)
  | ((with_reducible show EvI _ _ _ (Expr.Call (Expr.Name "range" _) [_, _, Expr.UnaryOp UnaryOp.USub (Expr.Constant (Const.int 1) _ _) _] _ _) _ _ _); refine i_rngD (by walk_at "nm") (by walk_at "asm") ?_)
  | ((with_reducible show EvI _ _ _ (Expr.Call (Expr.Name "range" _) [_, _] _ _) _ _ _); refine i_rng2 (by walk_at "nm") (by walk_at "asm") ?_)
  | ((with_reducible show EvI _ _ _ (Expr.Name _ _) _ _ _); (first | refine i_keysX (by walk_at "at") (by walk_at "nm") (by constructor) ?_ | refine i_val ?_))
  | ((with_reducible show EvI _ _ _ _ _ _ _); refine i_val ?_))
local macro_rules | `(tactic| walk_at "j_EvTs") => `(tactic| first
  | ((with_reducible show EvTs _ _ [] _ _ _); refine ts_nil ?_)
  | ((with_reducible show EvTs _ _ [_] _ _ _); refine ts_one ?_))
local macro_rules | `(tactic| walk_at "g_TgK_Tuple") => `(tactic| first
  | ((with_reducible show TgK _ _ (Expr.Tuple [_, _] _ _) _ _ _ _ _); (first | refine tg_two ?_ | refine tg_twoL ?_))
  | ((with_reducible show TgK _ _ (Expr.Tuple [_, _, _] _ _) _ _ _ _ _); refine tg_three ?_))
local macro_rules | `(tactic| walk_at "j_TgK") => `(tactic| first
  | ((with_reducible show TgK _ _ (Expr.Tuple _ _ _) _ _ _ _ _); walk_at "g_TgK_Tuple")
  | ((with_reducible show TgK _ _ (Expr.Name _ _) _ _ _ _ _); refine tg_name (by walk_at "spl") (by walk_at "nm") (by constructor) ?_))
local macro_rules | `(tactic| walk_at "e1") => `(tactic| first
  | ((with_reducible show EvK _ _ _ _ _ _); walk_at "j_EvK")
  | ((with_reducible show EvT _ _ _ _ _ _); walk_at "j_EvT")
  | ((with_reducible show EvB _ _ _ _ _ _); walk_at "j_EvB")
  | ((with_reducible show EvW _ _ _ _ _ _); walk_at "j_EvW")
  | ((with_reducible show EvN _ _ _ _ _ _); walk_at "j_EvN")
  | ((with_reducible show StK _ _ _ _ _ _); walk_at "j_StK")
  | ((with_reducible show EvA _ _ _ _ _ _); walk_at "j_EvA")
  | ((with_reducible show EvO _ _ _ _ _ _); walk_at "j_EvO")
  | ((with_reducible show MkK _ _ _ _ _ _); walk_at "j_MkK")
  | ((with_reducible show RunK _ _ _ _ _ _); walk_at "j_RunK")
  | ((with_reducible show EvX _ _ _ _ _ _); walk_at "j_EvX")
  | ((with_reducible show EvI _ _ _ _ _ _ _); walk_at "j_EvI")
  | ((with_reducible show EvTs _ _ _ _ _ _); walk_at "j_EvTs")
  | ((with_reducible show TgK _ _ _ _ _ _ _ _); walk_at "j_TgK")
  | ((with_reducible show ∃ a', D.obj _ = D.obj a' ∧ _); refine ⟨_, rfl, ?_⟩)
  | ((with_reducible show D.obj _ = D.obj _ ∧ _); refine ⟨rfl, ?_⟩)
  | ((with_reducible show LRunK _ _ [] _ _ _); refine l_nil ?_)
  | ((with_reducible show LRunK _ _ _ _ _ _); (first | refine l_consC ?_ | refine l_cons ?_))
  | ((with_reducible show LStK _ _ (Stmt.Expr (Expr.Yield _ _) _) _ _ _); refine l_yieldS ?_)
  | ((with_reducible show LStK _ _ (Stmt.Assign _ _ _) _ _ _); refine l_pl ?_)
  | ((with_reducible show LStK _ _ (Stmt.Expr (Expr.Call _ _ _ _) _) _ _ _); refine l_pl ?_)
  | ((with_reducible show GRunK _ _ [] _ _ _); refine g_nil ?_)
  | ((with_reducible show GRunK _ _ _ _ _ _); (first | refine g_consC ?_ | refine g_cons ?_))
  | ((with_reducible show GStK _ _ (Stmt.Expr (Expr.Yield _ _) _) _ _ _); refine g_yieldS ?_)
  | ((with_reducible show GStK _ _ (Stmt.Assign _ _ _) _ _ _); refine g_pl ?_)
  | ((with_reducible show GStK _ _ (Stmt.Expr (Expr.Call _ _ _ _) _) _ _ _); refine g_pl ?_)
  | ((with_reducible show GStK _ _ (Stmt.If _ _ _ _) _ _ _); refine g_pl ?_)
  | ((with_reducible show ∃ F F2, Spl _ _ F ∧ Spl _ _ F2 ∧ _); refine ⟨_, _, (by walk_at "spl"), (by walk_at "spl"), ?_⟩)
  | ((with_reducible show List.length [] ≤ sizeLine ∧ _); refine ⟨le_line (Nat.le_of_ble_eq_true rfl), ?_⟩)
  | ((with_reducible show List.length (_ :: _) ≤ sizeLine ∧ _); refine ⟨le_line (Nat.le_of_ble_eq_true rfl), ?_⟩)
  | ((with_reducible show ∃ d1 d2, [_, _] = [d1, d2] ∧ _); refine ⟨_, _, rfl, ?_⟩)
  | ((with_reducible show ixW (D.lst (_ :: _)) (D.int _) _); refine w_ix_l rfl ?_)
  | ((with_reducible show ixW (D.tup (_ :: _)) (D.int _) _); refine w_ix_t rfl ?_)
  | ((with_reducible show Br (!isN (D.int _)) _ _); refine Br.t ?_)
  | ((with_reducible show Br (isN (D.int _)) _ _); refine Br.f ?_)
  | ((with_reducible show Br (!isN (D.tup _)) _ _); refine Br.t ?_)
  | ((with_reducible show Br (isN (D.tup _)) _ _); refine Br.f ?_)
  | ((with_reducible show Br (!isN (D.str _)) _ _); refine Br.t ?_)
  | ((with_reducible show Br (isN (D.str _)) _ _); refine Br.f ?_)
  | ((with_reducible show Br (!isN (D.lst _)) _ _); refine Br.t ?_)
  | ((with_reducible show Br (isN (D.lst _)) _ _); refine Br.f ?_)
  | ((with_reducible show Br (!isN (D.bl _)) _ _); refine Br.t ?_)
  | ((with_reducible show Br (isN (D.bl _)) _ _); refine Br.f ?_)
  | ((with_reducible show Br (!isN D.non) _ _); refine Br.f ?_)
  | ((with_reducible show Br (isN D.non) _ _); refine Br.t ?_)
  | ((with_reducible show Br true _ _); refine Br.t ?_)
  | ((with_reducible show Br false _ _); refine Br.f ?_)
  | with_reducible refine br_same ?_
  | with_reducible refine w_len_l ?_
  | with_reducible refine w_len_t ?_
  | with_reducible refine w_int_i ?_
  | with_reducible refine w_int_b ?_
  | with_reducible refine w_tuple_l ?_
  | with_reducible refine w_tuple_t ?_
  | with_reducible refine w_list_l ?_
  | with_reducible refine w_list_t ?_
  | with_reducible refine w_add_i ?_
  | with_reducible refine w_sub ?_
  | with_reducible refine w_lt ?_
  | with_reducible refine w_le ?_
  | with_reducible refine w_gt ?_
  | with_reducible refine w_ge ?_
  | with_reducible refine w_eq_i ?_
  | with_reducible refine w_eq_s ?_
  | with_reducible refine w_eq_b ?_
  | with_reducible refine w_ne_i ?_
  | with_reducible refine w_ne_s ?_
  | with_reducible refine w_ne_b ?_
  | with_reducible refine w_tru_b ?_
  | with_reducible refine w_tru_i ?_
  | with_reducible refine w_tru_l ?_
  | with_reducible refine w_tru_t ?_
  | with_reducible refine w_it_l ?_
  | with_reducible refine w_it_t ?_
  | with_reducible refine w_it_s ?_
  | with_reducible refine w_sl_l ?_
  | with_reducible refine w_sl_t ?_)
local macro_rules | `(tactic| walk_at "ev") => `(tactic| repeat walk_at "e1")
local macro_rules | `(tactic| walk_at "e1i") => `(tactic| ((fail_if_success (with_reducible show StK _ _ (Stmt.If _ _ _ _) _ _ _)); walk_at "e1"))
local macro_rules | `(tactic| walk_at "evi") => `(tactic| repeat walk_at "e1i")
local macro_rules | `(tactic| walk_at "e2") => `(tactic| first | walk_at "e1" | ((with_reducible show ∃ i, D.int _ = D.int i ∧ _); refine ⟨_, rfl, ?_⟩))
local macro_rules | `(tactic| walk_at "ev2") => `(tactic| repeat walk_at "e2")
local macro_rules | `(tactic| walk_at "at") => `(tactic| (focus (with_reducible (repeat constructor); done)))
local macro_rules | `(tactic| walk_at "nm") => `(tactic| (focus (with_reducible (repeat constructor); done)))
local macro_rules | `(tactic| walk_at "spl") => `(tactic| (focus (with_reducible (repeat constructor); done)))
local macro_rules | `(tactic| walk_at "asm") => `(tactic| (with_reducible assumption))
/-! ### the deck's defs -/
section
variable {P : Program} {w : World} {K : PySem.W.Frag} {mg : Str → Option Value} {base : Heap} {d c : Addr} {hdc : d ≠ c}
theorem ok_draw {f : Addr} {fd : FuncData} {k : Nat} (F : Fun K "_law_draw" "_law_draw" s_l_draw f fd) (ml : mg "len" = none) (mi : mg "int" = none) : FnG P w K mg base (k + 1) f fd ["_law_deck_here", "_law_many"] (spD K (deckA d c hdc) semDraw) := by
  have nd := sc_l_draw.sc.nd
  refine FnG.mk_ F sc_l_draw.sc (fun vs H Q E ⟨G, ds, u, Φ, _, _, r, ⟨many, e, _⟩, _⟩ => by rw [r.len, e]; rfl) ?_
  intro cdv Ar outer s H vs Q hr hg ⟨G, ds, m, Φ, kn, st0, r, ⟨many, e, m1, m2, m3, hΦ⟩, q⟩
  subst e
  obtain ⟨x1, y, rfl, r1, r⟩ := RpA.cons_iff.mp r
  obtain ⟨x2, rfl, r2⟩ := rpa1 r
  simp only [Rp] at r1 r2
  subst r1 r2
  obtain ⟨⟨n, ns, hd, hc, n0, n1, nl, nn⟩, gd, gc⟩ := st0
  refine ⟨_, pss_cons (ps_asg (pe_op op_add (pe_ix ix_list (pv 0) pe_int (fun _ _ => rfl)) pe_int) (pg_sub (pv 0) pe_int set_list))
    (pss_cons (ps_asg (pe_tup (pa_cons pe_int (pa_cons (pe_un un_neg pe_int) pa_nil))) (pg_tup rfl (pgs_cons (pg_name (i := 2) nd rfl (.inl rfl)) (pgs_cons (pg_name (i := 3) nd rfl (.inl rfl)) pgs_nil))))
    (pss_cons (ps_if (pt_cmpR op_gt (pe_callB call_len_seq (by rfl) ml PySem.boot_len (pa_cons (pe_ix ix_list (pv 0) pe_int (fun _ _ => rfl)) pa_nil)) pe_int (nomark _))
      (pss_cons (ps_set (i := 3) nd rfl (.inl rfl) (pe_op op_mod (pe_callTy call_int1 (by rfl) mi bb_int (pa_cons (pe_ix ix_list (pv 0) pe_int (fun _ _ => rfl)) pa_nil)) (pe_callB call_len_seq (by rfl) ml PySem.boot_len (pa_cons (pe_ix ix_list (pv 0) pe_int (fun _ _ => rfl)) pa_nil))))
        (pss_one (ps_set (i := 2) nd rfl (.inl rfl) (pe_ix ix_list (pe_ix ix_list (pv 0) pe_int (fun _ _ => rfl)) (pv 3) (fun _ _ => rfl)))))
      pss_nil)
    (pss_cons (ps_if (pt_cmpR op_ge (pv 2) (pe_op op_pow pe_int pe_int) (nomark _))
      (pss_cons (ps_asg (pe_op op_fdivW (pe_callTy call_int1 (by rfl) mi bb_int (pa_cons (pv 2) pa_nil)) (pv 1)) (pg_sub (pe_ix ix_list (pv 0) pe_int (fun _ _ => rfl)) (pv 3) set_list))
        (pss_one (ps_ret (pe_op op_mod (pe_callTy call_int1 (by rfl) mi bb_int (pa_cons (pv 2) pa_nil)) (pv 1)))))
      pss_nil)
    (pss_cons (ps_set (i := 4) nd rfl (.inl rfl) (pe_op op_add (pe_op op_add (pe_op op_mod (pe_callTy call_int1 (by rfl) mi bb_int (pa_cons (pv 2) pa_nil)) pe_int) (pe_op op_mulW pe_int (pe_ix ix_list (pv 0) pe_int (fun _ _ => rfl)))) pe_int))
    (pss_one (ps_ret (pe_op op_mod (pe_callTy call_int1 (by rfl) mi bb_int (pa_cons (pe_op op_mod (pe_callTy call_int1 (by rfl) mi bb_int (pa_cons (pe_op op_pow (pv 4) pe_int) pa_nil)) pe_int) pa_nil)) (pv 1)))))))), ?_⟩
  -- the count goes up
  refine ⟨_, rfl, d, [.ref c, .int n], 1, .int n, rfl, rfl, SqL.of hd, atI_nat (j := 1) rfl, n, 1, rfl, rfl, .ref d, rfl, d, [.ref c, .int n], 1, 1, rfl, rfl, hd, rfl, ?_⟩
  have ncd : c ≠ d := fun z => hdc z.symm
  have hd1 : (upd H d (.lst [.ref c, .int (n + 1)])) d = some (.lst [.ref c, .int (n + 1)]) := upd_same
  have hc1 : (upd H d (.lst [.ref c, .int (n + 1)])) c = some (.lst (ns.map V.int)) := by rw [upd_ne ncd]; exact hc
  refine ⟨1, rfl, by show 2 ≤ sizeLine; decide, fun t ht => ⟨t, [.int 0, .int (-1)], rfl, .inl (.inl upd_same), rfl, .int 0, [.int (-1)], rfl, .int (-1), [], rfl, rfl, ?_⟩⟩
  generalize hH1 : upd (upd H d (.lst ([V.ref c, V.int n].set 1 ((fun i j => V.int (i + j)) n 1)))) t (.tup [V.int 0, (fun i => V.int (-i)) 1]) = H1
  have hH1 : upd (upd H d (.lst [.ref c, .int (n + 1)])) t (.tup [.int 0, .int (-1)]) = H1 := hH1
  have td : d ≠ t := ne_of_none hd1 ht
  have tc : c ≠ t := ne_of_none hc1 ht
  have hd2 : H1 d = some (.lst [.ref c, .int (n + 1)]) := by rw [← hH1, upd_ne td]; exact hd1
  have hc2 : H1 c = some (.lst (ns.map V.int)) := by rw [← hH1, upd_ne tc]; exact hc1
  have fin : ∀ (H2 : Hp) (ns2 : List Int), H2 d = some (.lst [.ref c, .int (n + 1)]) → H2 c = some (.lst (ns2.map V.int)) → ns2.length ≤ 63 → (∀ z ∈ ns2, 0 ≤ z) → (∀ a, a ≠ c → H2 a = H1 a) → ∀ i : Int, 0 ≤ i → i < many → Q (.int i) H2 := by
    intro H2 ns2 k1 k2 k3 k4 k5 i i0 i1
    have keep : ∀ a o, ¬ (a = d ∨ a = c) → H a = some o → H2 a = some o := fun a o nf e => by
      rw [k5 a fun z => nf (.inr z), ← hH1]
      have e1 : upd H d (.lst [.ref c, .int (n + 1)]) a = some o := by rw [upd_ne fun z => nf (.inl z)]; exact e
      rw [upd_ne (ne_of_none e1 ht)]; exact e1
    refine q (.int i) (Nat.succ m) (.int i) G H2 (hΦ i i0 i1) ⟨Kn.refl G, fun a o e => keep a o (fun z => ?_) (kn a o e), keep, fun a e => ?_, fun a e n => absurd e n, fun _ => .inl⟩ ⟨⟨n + 1, ns2, k1, k2, by omega, by omega, k3, k4⟩, gd, gc⟩ (by simp only [Rp])
    · rcases z with rfl | rfl
      · rw [gd] at e; cases e
      · rw [gc] at e; cases e
    · by_cases z : a = d ∨ a = c
      · rcases z with rfl | rfl
        · rw [k1]; simp
        · rw [k2]; simp
      · cases w : H a with
        | none => exact absurd w e
        | some o => rw [keep a o z w]; simp
  have im : ∀ x : Int, 0 ≤ x % many ∧ x % many < many := fun x => ⟨Int.emod_nonneg x (by omega), Int.emod_lt_of_pos x m1⟩
  refine ⟨.ref d, rfl, d, [.ref c, .int (n + 1)], 0, .ref c, rfl, rfl, SqL.of hd2, atI_nat (j := 0) rfl, c, ns.map V.int, rfl, .inl (SqL.of hc2), _, 0, rfl, rfl, _, rfl, ite2 (fun hl => ?_) (fun hl => ?_)⟩
  · have hl : 0 < ns.length := by have := of_decide_eq_true hl; rw [List.length_map] at this; omega
    have lm : ((ns.map V.int).length : Int) = ns.length := by rw [List.length_map]
    have a0 : 0 ≤ (n + 1) % ((ns.map V.int).length : Int) := by rw [lm]; exact Int.emod_nonneg _ (by omega)
    have a1 : (n + 1) % ((ns.map V.int).length : Int) < ns.length := by rw [lm]; exact Int.emod_lt_of_pos _ (by omega)
    obtain ⟨cell, hcell, hmem⟩ := atI_lt a0 a1
    have hc0 := nn cell hmem
    refine ⟨.ref d, rfl, d, [.ref c, .int (n + 1)], 1, .int (n + 1), rfl, rfl, SqL.of hd2, atI_nat (j := 1) rfl, .inl ⟨_, rfl, .ref d, rfl, d, [.ref c, .int (n + 1)], 0, .ref c, rfl, rfl, SqL.of hd2, atI_nat (j := 0) rfl, c, ns.map V.int, rfl, .inl (SqL.of hc2), _, _, rfl, rfl, ?_, ?_⟩⟩
    · rw [lm]; omega
    refine ⟨.ref d, rfl, d, [.ref c, .int (n + 1)], 0, .ref c, rfl, rfl, SqL.of hd2, atI_nat (j := 0) rfl, _, rfl, c, ns.map V.int, _, .int cell, rfl, rfl, SqL.of hc2, hcell, ?_⟩
    refine ⟨_, rfl, 10, 18, rfl, rfl, ⟨by decide, by decide, by decide⟩, _, _, rfl, rfl, _, rfl, ite2 (fun hb => ?_) (fun _ => ?_)⟩
    · have hb := of_decide_eq_true hb
      have hat := And.intro a0 a1
      obtain ⟨a0, a1⟩ := hat
      refine ⟨_, rfl, .inl ⟨_, rfl, _, rfl, _, _, rfl, rfl, wide_div (b := 41) m1 (by omega) (by decide) (by decide), .ref d, rfl, d, [.ref c, .int (n + 1)], 0, .ref c, rfl, rfl, SqL.of hd2, atI_nat (j := 0) rfl, _, rfl, c, ns.map V.int, _, ((n + 1) % ((ns.map V.int).length : Int)).toNat, rfl, rfl, hc2, ?_, ?_⟩⟩
      · rw [List.length_map] at a0 a1 ⊢; exact ixN_lt a0 a1
      · refine ⟨_, rfl, .inl ⟨_, rfl, _, rfl, _, _, rfl, rfl, m1, ?_⟩⟩
        refine fin _ (ns.set ((n + 1) % ((ns.map V.int).length : Int)).toNat (cell / many)) ?_ ?_ ?_ ?_ ?_ _ (im _).1 (im _).2
        · rw [upd_ne hdc]; exact hd2
        · rw [upd_same, List.map_set]
        · rw [List.length_set]; exact nl
        · intro z hz
          rcases List.mem_or_eq_of_mem_set hz with w | w
          · exact nn z w
          · rw [w]; exact Int.ediv_nonneg hc0 (by omega)
        · intro a ha; exact upd_ne ha
    · refine ⟨_, rfl, .inl ⟨_, rfl, _, _, rfl, rfl, (by show (0 : Int) < 2147483563; decide), .ref d, rfl, d, [.ref c, .int (n + 1)], 1, .int (n + 1), rfl, rfl, SqL.of hd2, atI_nat (j := 1) rfl, 8117, n + 1, rfl, rfl, ?_, _, _, rfl, rfl, _, 3, rfl, rfl, ?_⟩⟩
      · exact wide_mul (a := 20) (b := 60) (by decide) (by omega) (by decide) (by decide) (by decide)
      have b1 : 0 ≤ cell % 2147483563 := Int.emod_nonneg _ (by decide)
      have b2 : cell % 2147483563 < 2147483563 := Int.emod_lt_of_pos _ (by decide)
      refine ⟨_, rfl, _, 5, rfl, rfl, ⟨by decide, by decide, ?_⟩, .inl ⟨_, rfl, _, _, rfl, rfl, (by show (0 : Int) < 2147483629; decide), .inl ⟨_, rfl, _, rfl, _, _, rfl, rfl, m1, ?_⟩⟩⟩
      · omega
      · exact fin H1 ns hd2 hc2 nl nn (fun _ _ => rfl) _ (im _).1 (im _).2
  · have h0 : (0 : Int) ≤ 0 := by decide
    refine ⟨_, rfl, 10, 18, rfl, rfl, ⟨by decide, by decide, by decide⟩, _, _, rfl, rfl, _, rfl, ite2 (fun hb => ?_) (fun _ => ?_)⟩
    · have hb := of_decide_eq_true hb
      exact absurd hb (by decide)

    · refine ⟨_, rfl, .inl ⟨_, rfl, _, _, rfl, rfl, (by show (0 : Int) < 2147483563; decide), .ref d, rfl, d, [.ref c, .int (n + 1)], 1, .int (n + 1), rfl, rfl, SqL.of hd2, atI_nat (j := 1) rfl, 8117, n + 1, rfl, rfl, ?_, _, _, rfl, rfl, _, 3, rfl, rfl, ?_⟩⟩
      · exact wide_mul (a := 20) (b := 60) (by decide) (by omega) (by decide) (by decide) (by decide)
      have b1 : 0 ≤ (0 : Int) % 2147483563 := Int.emod_nonneg _ (by decide)
      have b2 : (0 : Int) % 2147483563 < 2147483563 := Int.emod_lt_of_pos _ (by decide)
      refine ⟨_, rfl, _, 5, rfl, rfl, ⟨by decide, by decide, ?_⟩, .inl ⟨_, rfl, _, _, rfl, rfl, (by show (0 : Int) < 2147483629; decide), .inl ⟨_, rfl, _, rfl, _, _, rfl, rfl, m1, ?_⟩⟩⟩
      · omega
      · exact fin H1 ns hd2 hc2 nl nn (fun _ _ => rfl) _ (im _).1 (im _).2
end
theorem cut_take (xs : List V) (k : Nat) : cutV xs none (some (k : Int)) = xs.take k := by
  unfold cutV
  rw [HT.sIx_none, HT.sIx_nat, Nat.sub_zero, List.drop_zero]
  by_cases h : k ≤ xs.length
  · rw [Nat.min_eq_left h]
  · rw [Nat.min_eq_right (by omega), List.take_of_length_le (Nat.le_refl _), List.take_of_length_le (by omega)]
def PvDeck (H : Hp) (p c : Addr) (l : List Int) (i : Nat) (H' : Hp) : Prop := Kn H H' ∧ H' p = some (.lst (l.map V.int)) ∧ ∃ ms : List Int, H' c = some (.lst (ms.map V.int)) ∧ ms.length = i ∧ ∀ z ∈ ms, 0 ≤ z
section
variable {P : Program} {w : World} {K : PySem.W.Frag} {mg : Str → Option Value} {base : Heap}
theorem ok_deck {f : Addr} {fd : FuncData} {k : Nat} (F : Fun K "_law_deck" "_law_deck" s_l_deck f fd) (ma : mg "abs" = none) : FnG P w K mg base (k + 1) f fd ["_law_script"] (spDeck K) := by
  have nd := sc_l_deck.sc.nd
  refine FnG.mk_ F sc_l_deck.sc (fun vs H Q E ⟨a, ns, e, _⟩ => by rw [e]; rfl) ?_
  intro cdv Ar outer s H vs Q hr hg ⟨a, ns, e, hS, q⟩
  subst e
  refine ⟨_, pss_one (ps_ret (pe_lst (pa_cons (pe_lc (own := [("_law_cell", 1)]) (g := gName 1) (tt := tYes) rfl nd (pi_list (pe_slice sl_list (pv 0) po_none (po_some pe_int)))
    (blkOk_by (N := N_l_deck) (sc := defScope s_l_deck) (by decide +kernel)) (fun _ _ _ _ _ => pg_name (i := 1) nd rfl (.inl rfl)) (fun _ _ _ _ _ => pts_nil)
    (fun _ _ _ _ _ => pe_callB call_abs (by rfl) ma bb_abs (pa_cons (pv 1) pa_nil))) (pa_cons pe_int pa_nil)))), ?_⟩
  refine ⟨.ref a, rfl, 63, rfl, a, ns.map V.int, rfl, hS, fun p hp => ⟨p, rfl, ⟨_, SqL.of upd_same⟩, fun c hc => ?_⟩⟩
  have e63 : cutV (ns.map V.int) none (some 63) = (ns.take 63).map V.int := by rw [show (63 : Int) = ((63 : Nat) : Int) from rfl, cut_take, List.map_take]
  rw [e63] at hc ⊢
  let H1 := upd H p (.lst ((ns.take 63).map V.int))
  have pc : p ≠ c := ne_of_none (H := H1) upd_same hc
  have Hc : H c = none := by
    have := hc
    rw [upd_ne (show c ≠ p from fun z => pc z.symm)] at this
    exact this
  refine lc_list (K := K) (a := p) (xs := (ns.take 63).map V.int) (PvDeck H p c (ns.take 63)) ?_ (fun i H' _ h => SqL.of h.2.1) ?_ ?_
  · refine ⟨fun b o e => ?_, ?_, [], upd_same, rfl, fun z hz => by cases hz⟩
    · rw [upd_ne (ne_of_none e Hc), upd_ne (ne_of_none e hp)]; exact e
    · rw [upd_ne pc]; exact upd_same
  · rintro i x H' hi ⟨k1, k2, ms, k3, k4, k5⟩
    obtain ⟨n, rfl⟩ : ∃ n, x = V.int n := by
      rw [List.getElem?_map] at hi
      cases e : (ns.take 63)[i]? with
      | none => rw [e] at hi; cases hi
      | some n => rw [e] at hi; exact ⟨n, (Option.some.inj hi).symm⟩
    have hlen : i < 63 := by
      have := (List.getElem?_eq_some_iff.mp hi).1
      rw [List.length_map, List.length_take] at this
      omega
    refine ⟨rfl, iteT (B := PvDeck H p c (ns.take 63) (i + 1) H') ?_⟩
    refine ⟨.int n, rfl, n, rfl, ms.map V.int, k3, by rw [List.length_map, sizeLine_eq]; omega, ?_, ?_, ms ++ [if n < 0 then -n else n], ?_, by rw [List.length_append, k4]; rfl, ?_⟩
    · intro b o e; rw [upd_ne (ne_of_none e Hc)]; exact k1 b o e
    · rw [upd_ne pc]; exact k2
    · rw [upd_same, List.map_append]; rfl
    · intro z hz
      rcases List.mem_append.mp hz with w | w
      · exact k5 z w
      · rw [List.mem_singleton.mp w]; split <;> omega
  · rintro H' ⟨k1, k2, ms, k3, k4, k5⟩
    refine ⟨by show 2 ≤ sizeLine; decide, fun d hd => ?_⟩
    have cd : c ≠ d := ne_of_none k3 hd
    have Hd : H d = none := k1.back hd
    refine q d c _ (fun z => cd z.symm) Hd Hc (fun b o e => ?_) ⟨0, ms, upd_same, ?_, Int.le_refl _, Int.le_refl _, ?_, k5⟩
    · rw [upd_ne (ne_of_none e Hd)]; exact k1 b o e
    · rw [upd_ne cd]; exact k3
    · rw [k4, List.length_map, List.length_take]; omega
end
section
variable {P : Program} {w : World} {K : PySem.W.Frag} {mg : Str → Option Value} {base : Heap} {d c : Addr} {hdc : d ≠ c}
theorem ok_one {f : Addr} {fd : FuncData} {k : Nat} (F : Fun K "_law_one" "_law_one" s_l_one f fd) (GD : DefK P w K mg base k (deckA d c hdc) "_law_draw" semDraw) (ml : mg "len" = none) : FnG P w K mg base (k + 1) f fd ["_law_deck_here", "_law_items"] (spD K (deckA d c hdc) semOne) := by
  refine fn_data F sc_l_one (fun ds u Φ ⟨s, t, e, _⟩ => by rw [e]; rfl) ?_
  rintro _ m Φ ⟨x, l, rfl, hit, hne, hlen, hm, hΦ⟩
  have pos : 0 < l.length := List.length_pos_iff.mpr hne
  simp only [begin_]
  cases x <;> simp only [itemsOf, Option.some.injEq, reduceCtorEq] at hit
  case lst y =>
    subst hit
    walk_at "ev"
    refine ⟨_, rfl, by omega, by omega, hm, fun i h0 h1 => ?_⟩
    have hi : i.toNat < y.length := by omega
    exact w_ix_l (at_nn h0 (List.getElem?_eq_getElem hi)) (hΦ _ (List.getElem_mem hi))
  case tup y =>
    subst hit
    walk_at "ev"
    refine ⟨_, rfl, by omega, by omega, hm, fun i h0 h1 => ?_⟩
    have hi : i.toNat < y.length := by omega
    exact w_ix_t (at_nn h0 (List.getElem?_eq_getElem hi)) (hΦ _ (List.getElem_mem hi))
  case str y =>
    subst hit
    rw [sgs_length] at hlen pos
    walk_at "ev"
    refine w_len_s (len_le hlen (by decide)) ?_
    walk_at "ev"
    refine ⟨_, rfl, by omega, by omega, hm, fun i h0 h1 => ?_⟩
    have hi : i.toNat < y.cps.toList.length := by rw [Array.length_toList]; show i.toNat < y.length; omega
    exact w_ix_s (len_le hlen (by decide)) (at_nn h0 (List.getElem?_eq_getElem hi)) (hΦ _ (mem_sgs.mpr ⟨_, List.getElem_mem hi, rfl⟩))
end
/-! ### small rules -/
theorem rgs_len (n : Nat) : (rgs 0 n).length = n := by simp [rgs]
theorem rgs_at {n k : Nat} {d : D} (h : (rgs 0 n)[k]? = some d) : k < n ∧ d = .int (k : Int) := by
  have h1 : k < n := by have := (List.getElem?_eq_some_iff.mp h).1; rw [rgs_len] at this; exact this
  refine ⟨h1, ?_⟩
  rw [rgs_map, List.getElem?_map, List.getElem?_range h1] at h
  exact (Option.some.inj h).symm
/-! ### letters -/
section
/-! ### of which classes an error is -/
local macro_rules | `(tactic| walk_at "e1") => `(tactic| ((with_reducible show EvK _ _ (Expr.Name _ _) _ _ _); refine k_clsN (by walk_at "nm") (by walk_at "asm") ?_))
local macro_rules | `(tactic| walk_at "e1") => `(tactic| ((with_reducible show EvK _ _ (Expr.Call (Expr.Name "isinstance" _) [_, _] _ _) _ _ _); refine k_isV (by assumption) (by walk_at "nm") (by walk_at "asm") ?_))
def nmX : List Str := ["BadText", "BadScheme", "BadRule", "BadWord", "BadLength", "NotRight", "NotLeft", "Faulty", "Busy", "TooManyEdits", "NothingToUndo", "NothingToRedo", "BadEdits", "BadEdit", "Rejected", "TooFar", "TooGreat"]
/-- the classes at hand -/
structure KdOk (K : PySem.W.Frag) (mg : Str → Option Value) (ca : Nat → Addr) : Prop where
  mg : ∀ i x, nmX[i]? = some x → mg x = some (.ref (ca i))
  ex : ∀ i, i < 20 → ExcC K (ca i)
  kit : ∀ i j, i < 20 → j < 17 → PySem.W.kitOne K (.ref (ca i)) (.ref (ca j)) = some (decide (i = j))
section
variable {P : Program} {w : World} {K : PySem.W.Frag} {mg : Str → Option Value} {base : Heap} {A : Amb}
def kdL (i : Nat) : List Bool := (List.range 17).map fun j => decide (i = j)
def semKs (L : XL K A) (ca : Nat → Addr) : Sem3 A := fun ds u Φ => ∃ (a : Addr) (xc : XC) (i : Nat), ds = [.obj a] ∧ L.get u a = some xc ∧ xc.cls = ca i ∧ i < 20 ∧ Φ (.lst ((kdL i).map .bl)) u
theorem ok_ks {f : Addr} {fd : FuncData} {k : Nat} (L : XL K A) {ca : Nat → Addr} (T : KdOk K mg ca) (F : Fun K "_law_kinds" "_law_kinds" s_l_kinds f fd) (mi : mg "isinstance" = none) : FnG P w K mg base (k + 1) f fd ["_law_e"] (spD K A (semKs L ca)) := by
  refine fn_data F sc_l_kinds (fun ds u Φ ⟨_, _, _, e, _⟩ => by rw [e]; rfl) ?_
  rintro _ u Φ ⟨a, xc, i, rfl, hx, hcls, hi, hΦ⟩
  simp only [begin_]
  have m0 : mg "BadText" = some (.ref (ca 0)) := T.mg 0 _ rfl
  have m1 : mg "BadScheme" = some (.ref (ca 1)) := T.mg 1 _ rfl
  have m2 : mg "BadRule" = some (.ref (ca 2)) := T.mg 2 _ rfl
  have m3 : mg "BadWord" = some (.ref (ca 3)) := T.mg 3 _ rfl
  have m4 : mg "BadLength" = some (.ref (ca 4)) := T.mg 4 _ rfl
  have m5 : mg "NotRight" = some (.ref (ca 5)) := T.mg 5 _ rfl
  have m6 : mg "NotLeft" = some (.ref (ca 6)) := T.mg 6 _ rfl
  have m7 : mg "Faulty" = some (.ref (ca 7)) := T.mg 7 _ rfl
  have m8 : mg "Busy" = some (.ref (ca 8)) := T.mg 8 _ rfl
  have m9 : mg "TooManyEdits" = some (.ref (ca 9)) := T.mg 9 _ rfl
  have m10 : mg "NothingToUndo" = some (.ref (ca 10)) := T.mg 10 _ rfl
  have m11 : mg "NothingToRedo" = some (.ref (ca 11)) := T.mg 11 _ rfl
  have m12 : mg "BadEdits" = some (.ref (ca 12)) := T.mg 12 _ rfl
  have m13 : mg "BadEdit" = some (.ref (ca 13)) := T.mg 13 _ rfl
  have m14 : mg "Rejected" = some (.ref (ca 14)) := T.mg 14 _ rfl
  have m15 : mg "TooFar" = some (.ref (ca 15)) := T.mg 15 _ rfl
  have m16 : mg "TooGreat" = some (.ref (ca 16)) := T.mg 16 _ rfl
  have he : ExcC K xc.cls := by rw [hcls]; exact T.ex i hi
  have hk : ∀ j, j < 17 → PySem.W.kitOne K (.ref xc.cls) (.ref (ca j)) = some (decide (i = j)) := fun j hj => by rw [hcls]; exact T.kit i j hi hj
  walk_at "ev"
  refine ⟨a, _, _, xc, _, rfl, hx, rfl, he, hk 0 (by decide), ?_⟩
  walk_at "ev"
  refine ⟨a, _, _, xc, _, rfl, hx, rfl, he, hk 1 (by decide), ?_⟩
  walk_at "ev"
  refine ⟨a, _, _, xc, _, rfl, hx, rfl, he, hk 2 (by decide), ?_⟩
  walk_at "ev"
  refine ⟨a, _, _, xc, _, rfl, hx, rfl, he, hk 3 (by decide), ?_⟩
  walk_at "ev"
  refine ⟨a, _, _, xc, _, rfl, hx, rfl, he, hk 4 (by decide), ?_⟩
  walk_at "ev"
  refine ⟨a, _, _, xc, _, rfl, hx, rfl, he, hk 5 (by decide), ?_⟩
  walk_at "ev"
  refine ⟨a, _, _, xc, _, rfl, hx, rfl, he, hk 6 (by decide), ?_⟩
  walk_at "ev"
  refine w_add_l (by simp only [List.length_append, List.length_cons, List.length_nil]; exact le_line (by decide)) ?_
  walk_at "ev"
  refine ⟨a, _, _, xc, _, rfl, hx, rfl, he, hk 7 (by decide), ?_⟩
  walk_at "ev"
  refine ⟨a, _, _, xc, _, rfl, hx, rfl, he, hk 8 (by decide), ?_⟩
  walk_at "ev"
  refine ⟨a, _, _, xc, _, rfl, hx, rfl, he, hk 9 (by decide), ?_⟩
  walk_at "ev"
  refine w_add_l (by simp only [List.length_append, List.length_cons, List.length_nil]; exact le_line (by decide)) ?_
  walk_at "ev"
  refine ⟨a, _, _, xc, _, rfl, hx, rfl, he, hk 10 (by decide), ?_⟩
  walk_at "ev"
  refine ⟨a, _, _, xc, _, rfl, hx, rfl, he, hk 11 (by decide), ?_⟩
  walk_at "ev"
  refine ⟨a, _, _, xc, _, rfl, hx, rfl, he, hk 12 (by decide), ?_⟩
  walk_at "ev"
  refine w_add_l (by simp only [List.length_append, List.length_cons, List.length_nil]; exact le_line (by decide)) ?_
  walk_at "ev"
  refine ⟨a, _, _, xc, _, rfl, hx, rfl, he, hk 13 (by decide), ?_⟩
  walk_at "ev"
  refine ⟨a, _, _, xc, _, rfl, hx, rfl, he, hk 14 (by decide), ?_⟩
  walk_at "ev"
  refine ⟨a, _, _, xc, _, rfl, hx, rfl, he, hk 15 (by decide), ?_⟩
  walk_at "ev"
  refine w_add_l (by simp only [List.length_append, List.length_cons, List.length_nil]; exact le_line (by decide)) ?_
  walk_at "ev"
  refine ⟨a, _, _, xc, _, rfl, hx, rfl, he, hk 16 (by decide), ?_⟩
  walk_at "ev"
  refine w_add_l (by simp only [List.length_append, List.length_cons, List.length_nil]; exact le_line (by decide)) ?_
  walk_at "ev"
  exact hΦ
end
end
section
/-! ### the fields of errors -/
local macro_rules | `(tactic| walk_at "e1") => `(tactic| ((with_reducible show EvK _ _ (Expr.Call (Expr.Name _ _) [_] _ _) _ _ _); refine k_mkV (by assumption) (by walk_at "asm") (by walk_at "nm") ?_))
local macro_rules | `(tactic| walk_at "e1") => `(tactic| ((with_reducible show EvK _ _ (Expr.Attribute _ _ _) _ _ _); refine k_xfV (by assumption) ?_))
local macro_rules | `(tactic| walk_at "e1") => `(tactic| ((with_reducible show EvK _ _ (Expr.Call (Expr.Name "repr" _) [_] [] _) _ _ _); refine k_repr3 (by assumption) (by walk_at "nm") (by walk_at "asm") ?_))
local macro_rules | `(tactic| walk_at "e1") => `(tactic| ((with_reducible show EvT _ _ (Expr.Compare _ [CmpOp.Eq] [Expr.List [] _] _) _ _ _); refine t_cmp eqE_ok ?_ (by rfl)))
local macro_rules | `(tactic| walk_at "e1") => `(tactic| ((with_reducible show EvT _ _ (Expr.Compare _ [CmpOp.NotEq] [Expr.List [] _] _) _ _ _); refine t_cmp neE_ok ?_ (by rfl)))
local macro_rules | `(tactic| walk_at "e1") => `(tactic| ((with_reducible show EvK _ _ (Expr.Compare _ [CmpOp.Eq] [Expr.List [] _] _) _ _ _); refine k_cmp eqE_ok ?_ (by rfl)))
local macro_rules | `(tactic| walk_at "e1") => `(tactic| ((with_reducible show EvK _ _ (Expr.Compare _ [CmpOp.NotEq] [Expr.List [] _] _) _ _ _); refine k_cmp neE_ok ?_ (by rfl)))
def flX : List (Str × Str × Nat) := [("BadText", "line", 0), ("BadScheme", "error", 1), ("BadRule", "error", 2), ("BadWord", "word", 3), ("BadLength", "length", 4), ("NotRight", "which", 5), ("NotLeft", "word", 6), ("Faulty", "fault", 7), ("BadEdit", "index", 13), ("Rejected", "index", 14), ("NoPair", "index", 17), ("NoVersion", "version", 18)]
def brX : List (Str × Nat) := [("Busy", 8), ("TooManyEdits", 9), ("NothingToUndo", 10), ("NothingToRedo", 11), ("BadEdits", 12), ("TooFar", 15), ("TooGreat", 16), ("PairError", 19)]
/-- the classes at hand, to be made -/
structure MkOk (P : Program) (w : World) (K : PySem.W.Frag) (mg : Str → Option Value) (base : Heap) (k : Nat) (ca : Nat → Addr) : Prop where
  M : ∀ x f i, (x, f, i) ∈ flX → MkI P w K mg base k x (ca i) f
  Z : ∀ x i, (x, i) ∈ brX → MkP0 K mg x (ca i)
theorem mki_xf {P : Program} {w : World} {K : PySem.W.Frag} {mg : Str → Option Value} {base : Heap} {k : Nat} {x f : Str} {C : Addr} (M : MkI P w K mg base k x C f) : XfC K C ∧ PySem.W.findIn K (.ref C) f = some none := by
  obtain ⟨bmB, B, newId, initId, fI, fd, k0, hk, T, FB, hno, _⟩ := M.ex
  exact ⟨T.xf, hno⟩
/-- behind some errors made -/
inductive Puts {K : PySem.W.Frag} {B : Amb} (L : XL K B) (u : B.U) : B.U → Prop
  | refl : Puts L u u
  | put {u' : B.U} (a : Addr) (c : XC) : Puts L u u' → Puts L u (L.put u' a c)
/-- a value that can be shown -/
def Shw (d : D) : Prop := d.pl3 = true ∧ (pd3 d).showable = true ∧ (pd3 d).depth ≤ 60 ∧ PyData.strOk (pd3 d).shown = true ∧ (pd3 d).shown.length ≤ sizeLine
section
variable {P : Program} {w : World} {K : PySem.W.Frag} {mg : Str → Option Value} {base : Heap} {A : Amb}
def semFr (L : XL K A) : Sem3 A := fun ds u Φ => ∃ da : D, ds = [da] ∧ Shw da ∧ ∀ u', Puts L u u' → Φ (.bl true) u'
theorem ok_fr {f : Addr} {fd : FuncData} {k : Nat} (L : XL K A) {ca : Nat → Addr} (T : MkOk P w K mg base k ca) (hsm : BaseSm base) (F : Fun K "_law_fields_right" "_law_fields_right" s_l_fields_right f fd) (mr : mg "repr" = none) (ml : mg "len" = none) : FnG P w K mg base (k + 1) f fd ["_law_a"] (spD K A (semFr L)) := by
  refine fn_data F sc_l_fields_right (fun ds u Φ ⟨_, e, _⟩ => by rw [e]; rfl) ?_
  rintro _ u Φ ⟨da, rfl, ⟨hp, hsh, hdp, hs1, hs2⟩, hΦ⟩
  simp only [begin_]
  have M0 : MkI P w K mg base k "BadText" (ca 0) "line" := T.M _ _ _ (by decide +kernel)
  have M1 : MkI P w K mg base k "BadScheme" (ca 1) "error" := T.M _ _ _ (by decide +kernel)
  have M2 : MkI P w K mg base k "BadRule" (ca 2) "error" := T.M _ _ _ (by decide +kernel)
  have M3 : MkI P w K mg base k "BadWord" (ca 3) "word" := T.M _ _ _ (by decide +kernel)
  have M4 : MkI P w K mg base k "BadLength" (ca 4) "length" := T.M _ _ _ (by decide +kernel)
  have M5 : MkI P w K mg base k "NotRight" (ca 5) "which" := T.M _ _ _ (by decide +kernel)
  have M6 : MkI P w K mg base k "NotLeft" (ca 6) "word" := T.M _ _ _ (by decide +kernel)
  have M7 : MkI P w K mg base k "Faulty" (ca 7) "fault" := T.M _ _ _ (by decide +kernel)
  have M13 : MkI P w K mg base k "BadEdit" (ca 13) "index" := T.M _ _ _ (by decide +kernel)
  have M14 : MkI P w K mg base k "Rejected" (ca 14) "index" := T.M _ _ _ (by decide +kernel)
  have M17 : MkI P w K mg base k "NoPair" (ca 17) "index" := T.M _ _ _ (by decide +kernel)
  have M18 : MkI P w K mg base k "NoVersion" (ca 18) "version" := T.M _ _ _ (by decide +kernel)
  have p0 : Puts L u u := .refl
  walk_at "ev"
  intro z0 hz0
  refine ⟨z0, _, _, rfl, (by rw [L.gp]; exact XCells.put_same), (mki_xf M0).1, (mki_xf M0).2, ?_⟩
  replace p0 := p0.put z0 (.fld (ca 0) "line" da)
  generalize L.put u z0 (.fld (ca 0) "line" da) = v0 at p0 ⊢
  clear hz0
  walk_at "ev"
  intro z1 hz1
  refine ⟨z1, _, _, rfl, (by rw [L.gp]; exact XCells.put_same), (mki_xf M1).1, (mki_xf M1).2, ?_⟩
  replace p0 := p0.put z1 (.fld (ca 1) "error" da)
  generalize L.put v0 z1 (.fld (ca 1) "error" da) = v1 at p0 ⊢
  clear hz1
  walk_at "ev"
  intro z2 hz2
  refine ⟨z2, _, _, rfl, (by rw [L.gp]; exact XCells.put_same), (mki_xf M2).1, (mki_xf M2).2, ?_⟩
  replace p0 := p0.put z2 (.fld (ca 2) "error" da)
  generalize L.put v1 z2 (.fld (ca 2) "error" da) = v2 at p0 ⊢
  clear hz2
  walk_at "ev"
  intro z3 hz3
  refine ⟨z3, _, _, rfl, (by rw [L.gp]; exact XCells.put_same), (mki_xf M3).1, (mki_xf M3).2, ?_⟩
  replace p0 := p0.put z3 (.fld (ca 3) "word" da)
  generalize L.put v2 z3 (.fld (ca 3) "word" da) = v3 at p0 ⊢
  clear hz3
  walk_at "ev"
  intro z4 hz4
  refine ⟨z4, _, _, rfl, (by rw [L.gp]; exact XCells.put_same), (mki_xf M4).1, (mki_xf M4).2, ?_⟩
  replace p0 := p0.put z4 (.fld (ca 4) "length" da)
  generalize L.put v3 z4 (.fld (ca 4) "length" da) = v4 at p0 ⊢
  clear hz4
  walk_at "ev"
  intro z5 hz5
  refine ⟨z5, _, _, rfl, (by rw [L.gp]; exact XCells.put_same), (mki_xf M5).1, (mki_xf M5).2, ?_⟩
  replace p0 := p0.put z5 (.fld (ca 5) "which" da)
  generalize L.put v4 z5 (.fld (ca 5) "which" da) = v5 at p0 ⊢
  clear hz5
  walk_at "ev"
  intro z6 hz6
  refine ⟨z6, _, _, rfl, (by rw [L.gp]; exact XCells.put_same), (mki_xf M6).1, (mki_xf M6).2, ?_⟩
  replace p0 := p0.put z6 (.fld (ca 6) "word" da)
  generalize L.put v5 z6 (.fld (ca 6) "word" da) = v6 at p0 ⊢
  clear hz6
  walk_at "ev"
  intro z7 hz7
  refine ⟨z7, _, _, rfl, (by rw [L.gp]; exact XCells.put_same), (mki_xf M7).1, (mki_xf M7).2, ?_⟩
  replace p0 := p0.put z7 (.fld (ca 7) "fault" da)
  generalize L.put v6 z7 (.fld (ca 7) "fault" da) = v7 at p0 ⊢
  clear hz7
  walk_at "ev"
  intro z8 hz8
  refine ⟨z8, _, _, rfl, (by rw [L.gp]; exact XCells.put_same), (mki_xf M13).1, (mki_xf M13).2, ?_⟩
  replace p0 := p0.put z8 (.fld (ca 13) "index" da)
  generalize L.put v7 z8 (.fld (ca 13) "index" da) = v8 at p0 ⊢
  clear hz8
  walk_at "ev"
  intro z9 hz9
  refine ⟨z9, _, _, rfl, (by rw [L.gp]; exact XCells.put_same), (mki_xf M14).1, (mki_xf M14).2, ?_⟩
  replace p0 := p0.put z9 (.fld (ca 14) "index" da)
  generalize L.put v8 z9 (.fld (ca 14) "index" da) = v9 at p0 ⊢
  clear hz9
  walk_at "ev"
  refine w_add_l (by simp only [List.length_append, List.length_cons, List.length_nil]; exact le_line (by decide)) ?_
  walk_at "ev"
  intro z10 hz10
  refine ⟨z10, _, _, rfl, (by rw [L.gp]; exact XCells.put_same), (mki_xf M17).1, (mki_xf M17).2, ?_⟩
  replace p0 := p0.put z10 (.fld (ca 17) "index" da)
  generalize L.put v9 z10 (.fld (ca 17) "index" da) = v10 at p0 ⊢
  clear hz10
  walk_at "ev"
  intro z11 hz11
  refine ⟨z11, _, _, rfl, (by rw [L.gp]; exact XCells.put_same), (mki_xf M18).1, (mki_xf M18).2, ?_⟩
  replace p0 := p0.put z11 (.fld (ca 18) "version" da)
  generalize L.put v10 z11 (.fld (ca 18) "version" da) = v11 at p0 ⊢
  clear hz11
  walk_at "ev"
  refine w_add_l (by simp only [List.length_append, List.length_cons, List.length_nil]; exact le_line (by decide)) ?_
  walk_at "ev"
  walk_at "map"
  walk_at "ev"
  refine ⟨fun _ => .str (pd3 da).shown, by simp, fun d hd => ?_, ?_⟩
  · obtain rfl : d = da := by simpa using hd
    walk_at "ev"
    exact ⟨hp, hsh, hdp, hs2, rfl, rfl⟩
  walk_at "ev"
  refine ⟨hp, hsh, hdp, hs2, ?_⟩
  walk_at "ev"
  refine w_mul_l (by simp) (by simp) (by simp; exact le_line (by decide)) ?_
  have el : (List.replicate ((([da, da, da, da, da] ++ [da, da, da, da, da] ++ [da, da]).length : Nat) : Int).toNat [D.str (pd3 da).shown]).flatten = ([da, da, da, da, da] ++ [da, da, da, da, da] ++ [da, da]).map fun _ => D.str (pd3 da).shown := rfl
  rw [el]
  generalize hS : (pd3 da).shown = S at hs1 hs2
  refine ⟨⟨rfl, rfl, ?_, ?_, ?_⟩, ?_⟩
  · show (pd (D.lst [D.str S, D.str S, D.str S, D.str S, D.str S, D.str S, D.str S, D.str S, D.str S, D.str S, D.str S, D.str S])).canLay0 = true
    simp [pd, pdA, PyData.canLay0, PyData.canLayAll0, hs1]
  · show (pd (D.lst [D.str S, D.str S, D.str S, D.str S, D.str S, D.str S, D.str S, D.str S, D.str S, D.str S, D.str S, D.str S])).canLay0 = true
    simp [pd, pdA, PyData.canLay0, PyData.canLayAll0, hs1]
  · show min (pd (D.lst [D.str S, D.str S, D.str S, D.str S, D.str S, D.str S, D.str S, D.str S, D.str S, D.str S, D.str S, D.str S])).depth (pd (D.lst [D.str S, D.str S, D.str S, D.str S, D.str S, D.str S, D.str S, D.str S, D.str S, D.str S, D.str S, D.str S])).depth ≤ 64
    simp [pd, pdA, PyData.depth, PyData.depthAll]
  have ee : PyData.eqv (pd (D.lst (([da, da, da, da, da] ++ [da, da, da, da, da] ++ [da, da]).map fun _ => D.str S))) (pd (D.lst (([da, da, da, da, da] ++ [da, da, da, da, da] ++ [da, da]).map fun _ => D.str S))) = true := by
    show PyData.eqv (pd (D.lst [D.str S, D.str S, D.str S, D.str S, D.str S, D.str S, D.str S, D.str S, D.str S, D.str S, D.str S, D.str S])) (pd (D.lst [D.str S, D.str S, D.str S, D.str S, D.str S, D.str S, D.str S, D.str S, D.str S, D.str S, D.str S, D.str S])) = true
    simp [pd, pdA, PyData.eqv, PyData.eqvAll]
  rw [ee]
  exact hΦ _ p0
end
end
section
/-! ### errors of each class, made and asked -/
local macro_rules | `(tactic| walk_at "e1") => `(tactic| ((with_reducible show EvK _ _ (Expr.Name _ _) _ _ _); refine k_clsN (by walk_at "nm") (by walk_at "asm") ?_))
local macro_rules | `(tactic| walk_at "e1") => `(tactic| ((with_reducible show EvK _ _ (Expr.Call (Expr.Name "isinstance" _) [_, _] _ _) _ _ _); refine k_isV (by assumption) (by walk_at "nm") (by walk_at "asm") ?_))
local macro_rules | `(tactic| walk_at "e1") => `(tactic| ((with_reducible show EvK _ _ (Expr.Call (Expr.Name _ _) [_] _ _) _ _ _); refine k_mkV (by assumption) (by walk_at "asm") (by walk_at "nm") ?_))
local macro_rules | `(tactic| walk_at "e1") => `(tactic| ((with_reducible show EvK _ _ (Expr.Call (Expr.Name _ _) [] _ _) _ _ _); refine k_mkV0 (by assumption) (by walk_at "asm") (by walk_at "nm") ?_))
local macro_rules | `(tactic| walk_at "e1") => `(tactic| ((with_reducible show EvK _ _ (Expr.Name "LookupError" _) _ _ _); refine k_ty (n := "LookupError") (by walk_at "nm") (by walk_at "asm") rfl ?_))
local macro_rules | `(tactic| walk_at "e1") => `(tactic| ((with_reducible show EvK _ _ (Expr.Name "ValueError" _) _ _ _); refine k_ty (n := "ValueError") (by walk_at "nm") (by walk_at "asm") rfl ?_))
local macro_rules | `(tactic| walk_at "g_EvK_Compare") => `(tactic| ((with_reducible show EvK _ _ (Expr.Compare _ [CmpOp.In] _ _) _ _ _); refine k_cmpB inb_ok ?_ inBB_mono (by rfl)))
local macro_rules | `(tactic| walk_at "fi6") => `(tactic| (refine k_cmpB inb_ok ?_ inBB_mono (by rfl)))
local macro_rules | `(tactic| walk_at "g_EvT_Compare") => `(tactic| ((with_reducible show EvT _ _ (Expr.Compare _ [CmpOp.In] _ _) _ _ _); refine t_cmpB inb_ok ?_ inBB_mono (by rfl)))
local macro_rules | `(tactic| walk_at "fi14") => `(tactic| (refine t_cmpB inb_ok ?_ inBB_mono (by rfl)))
theorem kd_none {j : Nat} (h : 17 ≤ j) : decide (true ∈ kdL j) = false := by
  refine decide_eq_false fun m => ?_
  unfold kdL at m
  obtain ⟨i, h1, h2⟩ := List.mem_map.mp m
  have h3 := List.mem_range.mp h1
  have h4 := of_decide_eq_true h2
  omega
/-- what else is asked of the classes -/
structure KdT (K : PySem.W.Frag) (mg : Str → Option Value) (ca : Nat → Addr) : Prop where
  mp : mg "PairError" = some (.ref (ca 19)) ∧ mg "NoPair" = some (.ref (ca 17)) ∧ mg "NoVersion" = some (.ref (ca 18))
  lk : ∀ i, i < 20 → PySem.W.kitOne K (.ref (ca i)) (.type "LookupError") = some (decide (i = 17 ∨ i = 18))
  ve : ∀ i, i < 20 → PySem.W.kitOne K (.ref (ca i)) (.type "ValueError") = some (!decide (i = 17 ∨ i = 18))
  pe : ∀ i, i < 20 → PySem.W.kitOne K (.ref (ca i)) (.ref (ca 19)) = some (!decide (i = 17 ∨ i = 18))
  np : PySem.W.kitOne K (.ref (ca 17)) (.ref (ca 18)) = some false ∧ PySem.W.kitOne K (.ref (ca 18)) (.ref (ca 17)) = some false
theorem bls_lay : ∀ bs : List Bool, D.plA (bs.map .bl) = true ∧ PyData.canLayAll0 (pdA (bs.map .bl)) = true ∧ PyData.depthAll (pdA (bs.map .bl)) = 0 ∧ PyData.eqvAll (pdA (bs.map .bl)) (pdA (bs.map .bl)) = true
  | [] => ⟨rfl, rfl, rfl, rfl⟩
  | b :: bs => by
    obtain ⟨h1, h2, h3, h4⟩ := bls_lay bs
    simp [D.plA, D.pl, pdA, pd, PyData.canLayAll0, PyData.canLay0, PyData.depthAll, PyData.depth, PyData.eqvAll, PyData.eqv, h1, h2, h3, h4]
theorem bls_cmp (bs : List Bool) : Cmpb (.lst (bs.map .bl)) (.lst (bs.map .bl)) ∧ PyData.eqv (pd (.lst (bs.map .bl))) (pd (.lst (bs.map .bl))) = true := by
  obtain ⟨h1, h2, h3, h4⟩ := bls_lay bs
  refine ⟨⟨by simp only [D.pl]; exact h1, by simp only [D.pl]; exact h1, by simp only [pd, PyData.canLay0]; exact h2, by simp only [pd, PyData.canLay0]; exact h2, ?_⟩, by simp only [pd, PyData.eqv]; exact h4⟩
  simp only [pd, PyData.depth, h3]
  decide
theorem kd_range (i : Nat) : (List.range 17).map (fun j : Nat => D.bl (decide ((j : Int) = (i : Int)))) = (kdL i).map .bl := by
  unfold kdL
  rw [List.map_map]
  refine List.map_congr_left fun j _ => ?_
  show D.bl _ = D.bl _
  exact congrArg D.bl (decide_eq_decide.mpr (by omega))
def kdF (i : Nat) : D → D
  | .int j => .bl (decide (j = (i : Int)))
  | _ => .non
theorem kdF_map (i : Nat) : (rgs 0 17).map (kdF i) = (kdL i).map .bl := by
  rw [rgs_map, List.map_map]; exact kd_range i
section
variable {P : Program} {w : World} {K : PySem.W.Frag} {mg : Str → Option Value} {base : Heap} {A : Amb}
def semKr (L : XL K A) : Sem3 A := fun ds u Φ => ∃ da : D, ds = [da] ∧ ∀ u', Puts L u u' → Φ (.bl true) u'
theorem ok_kr {f : Addr} {fd : FuncData} {k : Nat} (L : XL K A) {ca : Nat → Addr} (T : MkOk P w K mg base k ca) (T1 : KdOk K mg ca) (T2 : KdT K mg ca) (GK : DefK P w K mg base k A "_law_kinds" (semKs L ca)) (F : Fun K "_law_kinds_right" "_law_kinds_right" s_l_kinds_right f fd) (mi : mg "isinstance" = none) (mr : mg "range" = none) (ml : mg "LookupError" = none) (mv : mg "ValueError" = none) : FnG P w K mg base (k + 1) f fd ["_law_a"] (spD K A (semKr L)) := by
  refine fn_data F sc_l_kinds_right (fun ds u Φ ⟨_, e, _⟩ => by rw [e]; rfl) ?_
  rintro _ u Φ ⟨da, rfl, hΦ⟩
  simp only [begin_]
  obtain ⟨n19, n17, n18⟩ := T2.mp
  have M0 : MkI P w K mg base k "BadText" (ca 0) "line" := T.M _ _ _ (by decide +kernel)
  have M1 : MkI P w K mg base k "BadScheme" (ca 1) "error" := T.M _ _ _ (by decide +kernel)
  have M2 : MkI P w K mg base k "BadRule" (ca 2) "error" := T.M _ _ _ (by decide +kernel)
  have M3 : MkI P w K mg base k "BadWord" (ca 3) "word" := T.M _ _ _ (by decide +kernel)
  have M4 : MkI P w K mg base k "BadLength" (ca 4) "length" := T.M _ _ _ (by decide +kernel)
  have M5 : MkI P w K mg base k "NotRight" (ca 5) "which" := T.M _ _ _ (by decide +kernel)
  have M6 : MkI P w K mg base k "NotLeft" (ca 6) "word" := T.M _ _ _ (by decide +kernel)
  have M7 : MkI P w K mg base k "Faulty" (ca 7) "fault" := T.M _ _ _ (by decide +kernel)
  have M13 : MkI P w K mg base k "BadEdit" (ca 13) "index" := T.M _ _ _ (by decide +kernel)
  have M14 : MkI P w K mg base k "Rejected" (ca 14) "index" := T.M _ _ _ (by decide +kernel)
  have M17 : MkI P w K mg base k "NoPair" (ca 17) "index" := T.M _ _ _ (by decide +kernel)
  have M18 : MkI P w K mg base k "NoVersion" (ca 18) "version" := T.M _ _ _ (by decide +kernel)
  have Z8 : MkP0 K mg "Busy" (ca 8) := T.Z _ _ (by decide +kernel)
  have Z9 : MkP0 K mg "TooManyEdits" (ca 9) := T.Z _ _ (by decide +kernel)
  have Z10 : MkP0 K mg "NothingToUndo" (ca 10) := T.Z _ _ (by decide +kernel)
  have Z11 : MkP0 K mg "NothingToRedo" (ca 11) := T.Z _ _ (by decide +kernel)
  have Z12 : MkP0 K mg "BadEdits" (ca 12) := T.Z _ _ (by decide +kernel)
  have Z15 : MkP0 K mg "TooFar" (ca 15) := T.Z _ _ (by decide +kernel)
  have Z16 : MkP0 K mg "TooGreat" (ca 16) := T.Z _ _ (by decide +kernel)
  have Z19 : MkP0 K mg "PairError" (ca 19) := T.Z _ _ (by decide +kernel)
  have p0 : Puts L u u := .refl
  have h0 : Held L u [] := Held.nil
  walk_at "ev"
  intro z0 hz0
  replace p0 := p0.put z0 (.fld (ca 0) "line" da)
  replace h0 := h0.snoc hz0 (.fld (ca 0) "line" da)
  generalize L.put u z0 (.fld (ca 0) "line" da) = v0 at p0 h0 ⊢
  clear hz0
  walk_at "ev"
  intro z1 hz1
  replace p0 := p0.put z1 (.fld (ca 1) "error" da)
  replace h0 := h0.snoc hz1 (.fld (ca 1) "error" da)
  generalize L.put v0 z1 (.fld (ca 1) "error" da) = v1 at p0 h0 ⊢
  clear hz1
  walk_at "ev"
  intro z2 hz2
  replace p0 := p0.put z2 (.fld (ca 2) "error" da)
  replace h0 := h0.snoc hz2 (.fld (ca 2) "error" da)
  generalize L.put v1 z2 (.fld (ca 2) "error" da) = v2 at p0 h0 ⊢
  clear hz2
  walk_at "ev"
  intro z3 hz3
  replace p0 := p0.put z3 (.fld (ca 3) "word" da)
  replace h0 := h0.snoc hz3 (.fld (ca 3) "word" da)
  generalize L.put v2 z3 (.fld (ca 3) "word" da) = v3 at p0 h0 ⊢
  clear hz3
  walk_at "ev"
  intro z4 hz4
  replace p0 := p0.put z4 (.fld (ca 4) "length" da)
  replace h0 := h0.snoc hz4 (.fld (ca 4) "length" da)
  generalize L.put v3 z4 (.fld (ca 4) "length" da) = v4 at p0 h0 ⊢
  clear hz4
  walk_at "ev"
  intro z5 hz5
  replace p0 := p0.put z5 (.fld (ca 5) "which" da)
  replace h0 := h0.snoc hz5 (.fld (ca 5) "which" da)
  generalize L.put v4 z5 (.fld (ca 5) "which" da) = v5 at p0 h0 ⊢
  clear hz5
  walk_at "ev"
  intro z6 hz6
  replace p0 := p0.put z6 (.fld (ca 6) "word" da)
  replace h0 := h0.snoc hz6 (.fld (ca 6) "word" da)
  generalize L.put v5 z6 (.fld (ca 6) "word" da) = v6 at p0 h0 ⊢
  clear hz6
  walk_at "ev"
  intro z7 hz7
  replace p0 := p0.put z7 (.fld (ca 7) "fault" da)
  replace h0 := h0.snoc hz7 (.fld (ca 7) "fault" da)
  generalize L.put v6 z7 (.fld (ca 7) "fault" da) = v7 at p0 h0 ⊢
  clear hz7
  walk_at "ev"
  intro z8 hz8
  replace p0 := p0.put z8 (.bare (ca 8))
  replace h0 := h0.snoc hz8 (.bare (ca 8))
  generalize L.put v7 z8 (.bare (ca 8)) = v8 at p0 h0 ⊢
  clear hz8
  walk_at "ev"
  intro z9 hz9
  replace p0 := p0.put z9 (.bare (ca 9))
  replace h0 := h0.snoc hz9 (.bare (ca 9))
  generalize L.put v8 z9 (.bare (ca 9)) = v9 at p0 h0 ⊢
  clear hz9
  walk_at "ev"
  intro z10 hz10
  replace p0 := p0.put z10 (.bare (ca 10))
  replace h0 := h0.snoc hz10 (.bare (ca 10))
  generalize L.put v9 z10 (.bare (ca 10)) = v10 at p0 h0 ⊢
  clear hz10
  walk_at "ev"
  intro z11 hz11
  replace p0 := p0.put z11 (.bare (ca 11))
  replace h0 := h0.snoc hz11 (.bare (ca 11))
  generalize L.put v10 z11 (.bare (ca 11)) = v11 at p0 h0 ⊢
  clear hz11
  walk_at "ev"
  intro z12 hz12
  replace p0 := p0.put z12 (.bare (ca 12))
  replace h0 := h0.snoc hz12 (.bare (ca 12))
  generalize L.put v11 z12 (.bare (ca 12)) = v12 at p0 h0 ⊢
  clear hz12
  walk_at "ev"
  intro z13 hz13
  replace p0 := p0.put z13 (.fld (ca 13) "index" da)
  replace h0 := h0.snoc hz13 (.fld (ca 13) "index" da)
  generalize L.put v12 z13 (.fld (ca 13) "index" da) = v13 at p0 h0 ⊢
  clear hz13
  walk_at "ev"
  intro z14 hz14
  replace p0 := p0.put z14 (.fld (ca 14) "index" da)
  replace h0 := h0.snoc hz14 (.fld (ca 14) "index" da)
  generalize L.put v13 z14 (.fld (ca 14) "index" da) = v14 at p0 h0 ⊢
  clear hz14
  walk_at "ev"
  refine w_add_l (by simp only [List.length_append, List.length_cons, List.length_nil]; exact le_line (by decide)) ?_
  walk_at "ev"
  intro z15 hz15
  replace p0 := p0.put z15 (.bare (ca 15))
  replace h0 := h0.snoc hz15 (.bare (ca 15))
  generalize L.put v14 z15 (.bare (ca 15)) = v15 at p0 h0 ⊢
  clear hz15
  walk_at "ev"
  intro z16 hz16
  replace p0 := p0.put z16 (.bare (ca 16))
  replace h0 := h0.snoc hz16 (.bare (ca 16))
  generalize L.put v15 z16 (.bare (ca 16)) = v16 at p0 h0 ⊢
  clear hz16
  walk_at "ev"
  refine w_add_l (by simp only [List.length_append, List.length_cons, List.length_nil]; exact le_line (by decide)) ?_
  walk_at "ev"
  have key : ∀ i : Nat, i < 17 → ∃ (z : Addr) (xc : XC), ([D.obj z0, D.obj z1, D.obj z2, D.obj z3, D.obj z4, D.obj z5, D.obj z6, D.obj z7] ++ [D.obj z8, D.obj z9, D.obj z10, D.obj z11, D.obj z12, D.obj z13, D.obj z14] ++ [D.obj z15, D.obj z16] : List D)[i]? = some (D.obj z) ∧ L.get v16 z = some xc ∧ xc.cls = ca i := fun i hi => match i, hi with
    | 0, _ => ⟨_, _, rfl, h0 (z0, .fld (ca 0) "line" da) (by simp), rfl⟩
    | 1, _ => ⟨_, _, rfl, h0 (z1, .fld (ca 1) "error" da) (by simp), rfl⟩
    | 2, _ => ⟨_, _, rfl, h0 (z2, .fld (ca 2) "error" da) (by simp), rfl⟩
    | 3, _ => ⟨_, _, rfl, h0 (z3, .fld (ca 3) "word" da) (by simp), rfl⟩
    | 4, _ => ⟨_, _, rfl, h0 (z4, .fld (ca 4) "length" da) (by simp), rfl⟩
    | 5, _ => ⟨_, _, rfl, h0 (z5, .fld (ca 5) "which" da) (by simp), rfl⟩
    | 6, _ => ⟨_, _, rfl, h0 (z6, .fld (ca 6) "word" da) (by simp), rfl⟩
    | 7, _ => ⟨_, _, rfl, h0 (z7, .fld (ca 7) "fault" da) (by simp), rfl⟩
    | 8, _ => ⟨_, _, rfl, h0 (z8, .bare (ca 8)) (by simp), rfl⟩
    | 9, _ => ⟨_, _, rfl, h0 (z9, .bare (ca 9)) (by simp), rfl⟩
    | 10, _ => ⟨_, _, rfl, h0 (z10, .bare (ca 10)) (by simp), rfl⟩
    | 11, _ => ⟨_, _, rfl, h0 (z11, .bare (ca 11)) (by simp), rfl⟩
    | 12, _ => ⟨_, _, rfl, h0 (z12, .bare (ca 12)) (by simp), rfl⟩
    | 13, _ => ⟨_, _, rfl, h0 (z13, .fld (ca 13) "index" da) (by simp), rfl⟩
    | 14, _ => ⟨_, _, rfl, h0 (z14, .fld (ca 14) "index" da) (by simp), rfl⟩
    | 15, _ => ⟨_, _, rfl, h0 (z15, .bare (ca 15)) (by simp), rfl⟩
    | 16, _ => ⟨_, _, rfl, h0 (z16, .bare (ca 16)) (by simp), rfl⟩
    | i + 17, h => absurd h (by omega)
  generalize ([D.obj z0, D.obj z1, D.obj z2, D.obj z3, D.obj z4, D.obj z5, D.obj z6, D.obj z7] ++ [D.obj z8, D.obj z9, D.obj z10, D.obj z11, D.obj z12, D.obj z13, D.obj z14] ++ [D.obj z15, D.obj z16] : List D) = ls at key ⊢
  clear h0
  refine s_forSR (S := Unit) (xs := ["_law_k"]) (fun _ _ => False) (fun _ _ z => z.elim) ?_
  walk_at "ev"
  refine ⟨_, rfl, by decide, by decide, ?_⟩
  refine ⟨fun _ => ([("_law_a", .dat da), ("_law_some", .dat (.lst ls)), ("_law_k", .un), ("_law_e", .un), ("_law_j", .un)] : NE), fun _ _ u' => u' = v16, (), by walk_at "fg", rfl, ?_, ?_⟩
  · rintro i di _ u' hd rfl
    obtain ⟨hi, rfl⟩ := rgs_at hd
    have hi : i < 17 := hi
    obtain ⟨z, xc, hz, hx, hc⟩ := key i hi
    have at_ : atI ls (i : Int) = some (D.obj z) := at_nn (by omega) (by rw [Int.toNat_natCast]; exact hz)
    walk_at "ev"
    refine w_ix_l at_ ?_
    walk_at "ev"
    refine ⟨z, xc, i, rfl, hx, hc, by omega, ?_⟩
    walk_at "ev"
    walk_at "map"
    walk_at "ev"
    refine ⟨_, rfl, by decide, by decide, ?_⟩
    rw [show ((17 : Int)).toNat = 17 from rfl]
    refine ⟨kdF i, by rw [rgs_map, List.length_map, List.length_range]; omega, fun e he => ?_, ?_⟩
    · obtain ⟨j, hj⟩ := List.mem_iff_getElem?.mp he
      obtain ⟨h1, rfl⟩ := rgs_at hj
      walk_at "ev"
      exact ⟨rfl, rfl⟩
    rw [kdF_map]
    obtain ⟨hb1, hb2⟩ := bls_cmp (kdL i)
    refine ⟨hb1, ?_⟩
    rw [hb2]
    refine Br.f ?_
    walk_at "ev"
    refine w_ix_l at_ ?_
    walk_at "ev"
    refine ⟨z, _, .type "LookupError", xc, false, rfl, hx, rfl, by rw [hc]; exact T1.ex i (by omega), by rw [hc, T2.lk i (by omega)]; exact congrArg some (decide_eq_false (by omega)), ?_⟩
    walk_at "ev"
    refine w_ix_l at_ ?_
    walk_at "ev"
    refine ⟨z, _, .ref (ca 19), xc, true, rfl, hx, rfl, by rw [hc]; exact T1.ex i (by omega), by rw [hc, T2.pe i (by omega)]; exact congrArg some (by simp only [Bool.not_eq_true', decide_eq_false_iff_not]; omega), ?_⟩
    refine Br.f ?_
    walk_at "ev"
    refine w_ix_l at_ ?_
    walk_at "ev"
    refine ⟨z, _, .type "ValueError", xc, true, rfl, hx, rfl, by rw [hc]; exact T1.ex i (by omega), by rw [hc, T2.ve i (by omega)]; exact congrArg some (by simp only [Bool.not_eq_true', decide_eq_false_iff_not]; omega), ?_⟩
    refine Br.f ?_
    walk_at "ev"
    exact ⟨(), by walk_at "fg", rfl⟩
  rintro sx u1 rfl
  clear key
  have h0 : Held L u1 [] := Held.nil
  walk_at "ev"
  refine s_forSR (S := Unit) (xs := ["_law_e"]) (fun _ _ => False) (fun _ _ z => z.elim) ?_
  walk_at "ev"
  intro q0 hq0
  replace p0 := p0.put q0 (.fld (ca 17) "index" da)
  replace h0 := h0.snoc hq0 (.fld (ca 17) "index" da)
  generalize L.put u1 q0 (.fld (ca 17) "index" da) = v1 at p0 h0 ⊢
  clear hq0
  walk_at "ev"
  intro q1 hq1
  replace p0 := p0.put q1 (.fld (ca 18) "version" da)
  replace h0 := h0.snoc hq1 (.fld (ca 18) "version" da)
  generalize L.put v1 q1 (.fld (ca 18) "version" da) = v2 at p0 h0 ⊢
  clear hq1
  walk_at "ev"
  intro q2 hq2
  replace p0 := p0.put q2 (.bare (ca 19))
  replace h0 := h0.snoc hq2 (.bare (ca 19))
  generalize L.put v2 q2 (.bare (ca 19)) = v3 at p0 h0 ⊢
  clear hq2
  walk_at "ev"
  refine ⟨fun _ => ([("_law_a", .dat da), ("_law_some", .dat (.lst ls)), ("_law_k", .un), ("_law_e", .un), ("_law_j", .un)] : NE), fun _ _ u' => u' = v3, (), by walk_at "fg", rfl, ?_, ?_⟩
  · rintro i di _ u' hd rfl
    have key : ∃ (z : Addr) (xc : XC) (j : Nat), di = D.obj z ∧ L.get u' z = some xc ∧ xc.cls = ca j ∧ 17 ≤ j ∧ j < 20 := by
      match i, hd with
      | 0, hd => exact ⟨q0, .fld (ca 17) "index" da, 17, (Option.some.inj hd).symm, h0 (q0, .fld (ca 17) "index" da) (by simp), rfl, by omega, by omega⟩
      | 1, hd => exact ⟨q1, .fld (ca 18) "version" da, 18, (Option.some.inj hd).symm, h0 (q1, .fld (ca 18) "version" da) (by simp), rfl, by omega, by omega⟩
      | 2, hd => exact ⟨q2, .bare (ca 19), 19, (Option.some.inj hd).symm, h0 (q2, .bare (ca 19)) (by simp), rfl, by omega, by omega⟩
      | i + 3, hd => cases hd
    obtain ⟨z, xc, j, rfl, hx, hc, h17, h20⟩ := key
    walk_at "ev"
    refine ⟨z, xc, j, rfl, hx, hc, h20, ?_⟩
    walk_at "ev"
    refine ⟨true, kdL j, rfl, rfl, ?_⟩
    rw [kd_none h17]
    refine Br.f ?_
    walk_at "ev"
    exact ⟨(), by walk_at "fg", rfl⟩
  rintro sy u2 rfl
  clear h0
  have h0 : Held L u2 [] := Held.nil
  walk_at "ev"
  refine s_forSR (S := Unit) (xs := ["_law_e"]) (fun _ _ => False) (fun _ _ z => z.elim) ?_
  walk_at "ev"
  intro y0 hq0
  replace p0 := p0.put y0 (.fld (ca 17) "index" da)
  replace h0 := h0.snoc hq0 (.fld (ca 17) "index" da)
  generalize L.put u2 y0 (.fld (ca 17) "index" da) = v1 at p0 h0 ⊢
  clear hq0
  walk_at "ev"
  intro y1 hq1
  replace p0 := p0.put y1 (.fld (ca 18) "version" da)
  replace h0 := h0.snoc hq1 (.fld (ca 18) "version" da)
  generalize L.put v1 y1 (.fld (ca 18) "version" da) = v2 at p0 h0 ⊢
  clear hq1
  walk_at "ev"
  refine ⟨fun _ => ([("_law_a", .dat da), ("_law_some", .dat (.lst ls)), ("_law_k", .un), ("_law_e", .un), ("_law_j", .un)] : NE), fun _ _ u' => u' = v2, (), by walk_at "fg", rfl, ?_, ?_⟩
  · rintro i di _ u' hd rfl
    have key : ∃ (z : Addr) (xc : XC) (j : Nat), di = D.obj z ∧ L.get u' z = some xc ∧ xc.cls = ca j ∧ 17 ≤ j ∧ j < 19 := by
      match i, hd with
      | 0, hd => exact ⟨y0, .fld (ca 17) "index" da, 17, (Option.some.inj hd).symm, h0 (y0, .fld (ca 17) "index" da) (by simp), rfl, by omega, by omega⟩
      | 1, hd => exact ⟨y1, .fld (ca 18) "version" da, 18, (Option.some.inj hd).symm, h0 (y1, .fld (ca 18) "version" da) (by simp), rfl, by omega, by omega⟩
      | i + 2, hd => cases hd
    obtain ⟨z, xc, j, rfl, hx, hc, h17, h20⟩ := key
    have hj : j = 17 ∨ j = 18 := by omega
    walk_at "ev"
    refine ⟨z, _, .type "LookupError", xc, true, rfl, hx, rfl, by rw [hc]; exact T1.ex j (by omega), by rw [hc, T2.lk j (by omega)]; exact congrArg some (decide_eq_true hj), ?_⟩
    walk_at "ev"
    refine Br.f ?_
    walk_at "ev"
    refine ⟨z, _, .type "ValueError", xc, false, rfl, hx, rfl, by rw [hc]; exact T1.ex j (by omega), by rw [hc, T2.ve j (by omega)]; exact congrArg some (by simp only [Bool.not_eq_false', decide_eq_true_eq]; exact hj), ?_⟩
    walk_at "ev"
    refine ⟨z, _, .ref (ca 19), xc, false, rfl, hx, rfl, by rw [hc]; exact T1.ex j (by omega), by rw [hc, T2.pe j (by omega)]; exact congrArg some (by simp only [Bool.not_eq_false', decide_eq_true_eq]; exact hj), ?_⟩
    walk_at "ev"
    exact ⟨(), by walk_at "fg", rfl⟩
  rintro sz u3 rfl
  clear h0
  walk_at "ev"
  intro x0 hx0
  walk_at "ev"
  refine ⟨x0, _, .type "LookupError", .bare (ca 19), false, rfl, Held.nil.snoc hx0 (.bare (ca 19)) (x0, .bare (ca 19)) (by simp), rfl, T1.ex 19 (by omega), T2.lk 19 (by omega), ?_⟩
  replace p0 := p0.put x0 (.bare (ca 19))
  generalize L.put u3 x0 (.bare (ca 19)) = v3 at p0 ⊢
  walk_at "ev"
  intro x1 hx1
  walk_at "ev"
  refine ⟨x1, _, .type "ValueError", .bare (ca 19), true, rfl, Held.nil.snoc hx1 (.bare (ca 19)) (x1, .bare (ca 19)) (by simp), rfl, T1.ex 19 (by omega), T2.ve 19 (by omega), ?_⟩
  replace p0 := p0.put x1 (.bare (ca 19))
  generalize L.put v3 x1 (.bare (ca 19)) = v4 at p0 ⊢
  walk_at "ev"
  refine Br.f ?_
  walk_at "ev"
  intro x2 hx2
  walk_at "ev"
  refine ⟨x2, _, .ref (ca 18), .fld (ca 17) "index" da, false, rfl, Held.nil.snoc hx2 (.fld (ca 17) "index" da) (x2, .fld (ca 17) "index" da) (by simp), rfl, T1.ex 17 (by omega), T2.np.1, ?_⟩
  replace p0 := p0.put x2 (.fld (ca 17) "index" da)
  generalize L.put v4 x2 (.fld (ca 17) "index" da) = v5 at p0 ⊢
  refine ⟨_, rfl, _, rfl, Br.t ?_⟩
  walk_at "ev"
  intro x3 hx3
  walk_at "ev"
  refine ⟨x3, _, .ref (ca 17), .fld (ca 18) "version" da, false, rfl, Held.nil.snoc hx3 (.fld (ca 18) "version" da) (x3, .fld (ca 18) "version" da) (by simp), rfl, T1.ex 18 (by omega), T2.np.2, ?_⟩
  replace p0 := p0.put x3 (.fld (ca 18) "version" da)
  generalize L.put v5 x3 (.fld (ca 18) "version" da) = v6 at p0 ⊢
  walk_at "ev"
  first | exact hΦ _ p0 | exact ⟨_, rfl, hΦ _ p0⟩ | skip
end
end
section
/-! ### the bounds -/
structure BnOk (K : PySem.W.Frag) (mg : Str → Option Value) (cB cR : Addr) : Prop where
  n0 : ∃ t, mg "MAX_LETTERS" = some (.int 4 t)
  n1 : ∃ t, mg "MAX_STATES" = some (.int 8 t)
  n2 : ∃ t, mg "MAX_ROWS" = some (.int 400 t)
  n3 : ∃ t, mg "MAX_PAIRS" = some (.int 6 t)
  n4 : ∃ t, mg "MAX_WINDOW" = some (.int 3 t)
  n5 : ∃ t, mg "MAX_LENGTH" = some (.int 400 t)
  n6 : ∃ t, mg "MAX_STEPS" = some (.int 10000 t)
  n7 : ∃ t, mg "MAX_EDITS" = some (.int 60 t)
  n8 : ∃ t, mg "BATCH" = some (.int 20 t)
  b : mg "Bench" = some (.ref cB) ∧ PySem.W.readsIn K cB (.type "type") = true ∧ ∃ t, PySem.W.findCls K (.ref cB) (.type "type") "MOST_EDITS" = some (.val (.int 60 t))
  r : mg "RightBench" = some (.ref cR) ∧ PySem.W.readsIn K cR (.type "type") = true ∧ ∃ t, PySem.W.findCls K (.ref cR) (.type "type") "MOST_EDITS" = some (.val (.int 60 t))
def bdX : List Int := [4, 8, 400, 6, 3, 400, 10000, 60, 20, 60, 60]
section
variable {P : Program} {w : World} {K : PySem.W.Frag} {mg : Str → Option Value} {base : Heap} {A : Amb}
def semBn : Sem3 A := fun ds u Φ => ds = [] ∧ Φ (.lst (bdX.map .int)) u
theorem ok_bn {f : Addr} {fd : FuncData} {k : Nat} {cB cR : Addr} (T : BnOk K mg cB cR) (F : Fun K "_law_bounds" "_law_bounds" s_l_bounds f fd) : FnG P w K mg base (k + 1) f fd [] (spD K A semBn) := by
  refine fn_data F sc_l_bounds (fun ds u Φ ⟨e, _⟩ => by rw [e]; rfl) ?_
  rintro _ u Φ ⟨rfl, hΦ⟩
  simp only [begin_]
  obtain ⟨t0, m0⟩ := T.n0
  obtain ⟨t1, m1⟩ := T.n1
  obtain ⟨t2, m2⟩ := T.n2
  obtain ⟨t3, m3⟩ := T.n3
  obtain ⟨t4, m4⟩ := T.n4
  obtain ⟨t5, m5⟩ := T.n5
  obtain ⟨t6, m6⟩ := T.n6
  obtain ⟨t7, m7⟩ := T.n7
  obtain ⟨t8, m8⟩ := T.n8
  obtain ⟨b0, b1, tb, b2⟩ := T.b
  obtain ⟨r0, r1, tr, r2⟩ := T.r
  walk_at "ev"
  refine k_clsF (by walk_at "nm") b0 b1 b2 ?_
  walk_at "ev"
  refine k_clsF (by walk_at "nm") r0 r1 r2 ?_
  walk_at "ev"
  refine w_add_l (le_line (Nat.le_of_ble_eq_true rfl)) ?_
  walk_at "ev"
  exact hΦ
end
end
section
/-! ### a value of some kind -/
local macro_rules | `(tactic| walk_at "e1") => `(tactic| ((with_reducible show EvK _ _ (Expr.Call (Expr.Name "str" _) [_] [] _) _ _ _); refine k_callTy str_ok (by walk_at "nm") (by walk_at "asm") bb_str ?_))
/-- the values at hand -/
def vaL (n : Int) : List D := [.non, .bl true, .bl false, .int 0, .int 1, .int n, .str (Str.ofString (toString n)), .str "", .tup [], .tup [.int n], .lst [.int n], .tup [.non, .str "places"], .tup [.tup [.int 1], .bl true], .dct [], .dct [(.inr "a", .int n)], .tup [.str "pay", .str "n"], .tup [.tup [.int 0, .int 1], .tup [.int 1, .int n]]]
theorem log_small {n : Nat} (h : n ≤ 500000000) : n.log2 < 1920 := by
  by_cases z : n = 0
  · subst z; decide
  · have := Nat.log2_lt z (k := 29) |>.mpr (by omega)
    omega
section
variable {P : Program} {w : World} {K : PySem.W.Frag} {mg : Str → Option Value} {base : Heap} {d c : Addr} {hdc : d ≠ c}
def semVa {d c : Addr} {h : d ≠ c} : Sem3 (deckA d c h) := fun ds (m : Nat) (Φ : D → Nat → Prop) => ds = [.obj d] ∧ m + 2 ≤ 2 ^ 40 ∧ ∀ (n : Int) (v : D), -500000000 ≤ n → n < 500000000 → v ∈ vaL n → Φ v (m + 2)
theorem ok_va {f : Addr} {fd : FuncData} {k : Nat} (F : Fun K "_law_value" "_law_value" s_l_value f fd) (GD : DefK P w K mg base k (deckA d c hdc) "_law_draw" semDraw) (GO : DefK P w K mg base k (deckA d c hdc) "_law_one" semOne) (ms : mg "str" = none) :
    FnG P w K mg base (k + 1) f fd ["_law_deck_here"] (spD K (deckA d c hdc) semVa) := by
  refine fn_data F sc_l_value (fun ds u Φ ⟨e, _⟩ => by rw [e]; rfl) ?_
  rintro _ m Φ ⟨rfl, hm, hΦ⟩
  simp only [begin_]
  walk_at "ev"
  refine w_pow ⟨by decide, by decide, by decide⟩ ?_
  walk_at "ev"
  refine ⟨_, rfl, by decide, by decide, by omega, fun i h0 h1 => ?_⟩
  have h1 : i < 1000000000 := h1
  walk_at "ev"
  refine w_pow ⟨by decide, by decide, by decide⟩ ?_
  walk_at "ev"
  refine w_mul_i (by unfold CMulW; decide) ?_
  walk_at "ev"
  generalize hn : i - 5 * 10 ^ Int.toNat 8 = n
  have n0 : -500000000 ≤ n ∧ n < 500000000 := by
    have e : (5 : Int) * 10 ^ Int.toNat 8 = 500000000 := by decide
    rw [e] at hn
    omega
  clear hn
  walk_at "ev"
  refine ⟨log_small (by omega), ?_⟩
  walk_at "ev"
  refine w_add_l (le_line (Nat.le_of_ble_eq_true rfl)) ?_
  walk_at "ev"
  refine ⟨_, _, rfl, rfl, by simp, Nat.le_of_ble_eq_true rfl, by omega, fun e he => ?_⟩
  exact hΦ n e n0.1 n0.2 he
end
end
section
/-! ### the values can be shown -/
def Low7 (s : Str) : Prop := ∀ c ∈ s.cps.toList, c < 128
theorem low7_app {a b : Str} (h1 : Low7 a) (h2 : Low7 b) : Low7 (a ++ b) := by
  intro c hc
  have hc : c ∈ (a.cps ++ b.cps).toList := hc
  rw [Array.toList_append] at hc
  rcases List.mem_append.mp hc with hc | hc
  · exact h1 c hc
  · exact h2 c hc
theorem low7_of {s : Str} (h : s.cps.toList.all (fun c => decide (c < 128)) = true) : Low7 s := fun c hc => of_decide_eq_true (List.all_eq_true.mp h c hc)
theorem low7_int (n : Int) : Low7 ((toString n : String) : Str) := fun c hc => by
  by_cases z : c < 128
  · exact z
  · exact absurd hc (int_text_free' c ⟨by omega, by omega⟩ n)
theorem low7_join : ∀ {ts : List Str}, (∀ t ∈ ts, Low7 t) → Low7 (Str.join ", " ts)
  | [], _ => low7_of (by decide +kernel)
  | [x], h => h x List.mem_cons_self
  | x :: y :: r, h => low7_app (low7_app (h x List.mem_cons_self) (low7_of (by decide +kernel))) (low7_join (ts := y :: r) fun t m => h t (List.mem_cons_of_mem _ m))
theorem reprChar7 : ((List.range 128).all fun c => (Builtin.Str.reprChar 34 c).all (fun x => decide (x < 128)) && (Builtin.Str.reprChar 39 c).all fun x => decide (x < 128)) = true := by decide +kernel
theorem reprFold7 {q : Nat} (hq : q = 34 ∨ q = 39) : ∀ (l : List Nat) (acc : Array Nat), (∀ c ∈ acc.toList, c < 128) → (∀ c ∈ l, c < 128) → ∀ c ∈ (l.foldl (fun out c => out ++ (Builtin.Str.reprChar q c).toArray) acc).toList, c < 128
  | [], acc, h, _ => h
  | x :: l, acc, h, hl => by
    rw [List.foldl_cons]
    refine reprFold7 hq l _ (fun c hc => ?_) fun c hc => hl c (List.mem_cons_of_mem _ hc)
    rw [Array.toList_append] at hc
    rcases List.mem_append.mp hc with hc | hc
    · exact h c hc
    · have hx := List.all_eq_true.mp reprChar7 x (List.mem_range.mpr (hl x List.mem_cons_self))
      rw [Bool.and_eq_true] at hx
      rcases hq with rfl | rfl
      · exact of_decide_eq_true (List.all_eq_true.mp hx.1 c hc)
      · exact of_decide_eq_true (List.all_eq_true.mp hx.2 c hc)
theorem low7_repr {x : Str} (h : Low7 x) : Low7 (reprText x) := by
  have hq : reprQuote x = 34 ∨ reprQuote x = 39 := by unfold reprQuote; split <;> simp
  intro c hc
  have hc : c ∈ ((x.cps.foldl (fun out c => out ++ (Builtin.Str.reprChar (reprQuote x) c).toArray) #[reprQuote x]).push (reprQuote x)).toList := hc
  rw [Array.toList_push, ← Array.foldl_toList] at hc
  have hq7 : reprQuote x < 128 := by omega
  rcases List.mem_append.mp hc with hc | hc
  · exact reprFold7 hq x.cps.toList _ (fun c hc => by simp at hc; omega) h c hc
  · rw [List.mem_singleton.mp hc]; exact hq7
mutual
def lowD : PyData → Prop
  | .str x => Low7 x
  | .list xs | .tuple xs => lowA xs
  | .dict kvs => lowK kvs
  | _ => True
def lowA : List PyData → Prop
  | [] => True
  | x :: xs => lowD x ∧ lowA xs
def lowK : List (PyData × PyData) → Prop
  | [] => True
  | (k, v) :: r => lowD k ∧ lowD v ∧ lowK r
end
mutual
theorem low7_shown : ∀ d : PyData, lowD d → Low7 d.shown
  | .none, _ => by rw [PyData.shown_none]; exact low7_of (by decide +kernel)
  | .bool b, _ => by rw [PyData.shown_bool]; cases b <;> exact low7_of (by decide +kernel)
  | .int i, _ => by rw [PyData.shown_int]; exact low7_int i
  | .str x, h => by rw [PyData.shown_str]; exact low7_repr (by simpa only [lowD] using h)
  | .list xs, h => by
    rw [PyData.shown_list]
    exact low7_app (low7_app (low7_of (by decide +kernel)) (low7_join (low7_all xs (by simpa only [lowD] using h)))) (low7_of (by decide +kernel))
  | .tuple xs, h => by
    rw [PyData.shown_tuple]
    refine low7_app (low7_app (low7_of (by decide +kernel)) (low7_join (low7_all xs (by simpa only [lowD] using h)))) ?_
    split <;> exact low7_of (by decide +kernel)
  | .dict kvs, h => by
    rw [PyData.shown_dict]
    exact low7_app (low7_app (low7_of (by decide +kernel)) (low7_join (low7_kv kvs (by simpa only [lowD] using h)))) (low7_of (by decide +kernel))
theorem low7_all : ∀ xs : List PyData, lowA xs → ∀ t ∈ PyData.shownAll xs, Low7 t
  | [], _, t, m => by rw [PyData.shownAll_nil] at m; cases m
  | x :: xs, h, t, m => by
    simp only [lowA] at h
    rw [PyData.shownAll_cons] at m
    rcases List.mem_cons.mp m with rfl | m
    · exact low7_shown x h.1
    · exact low7_all xs h.2 t m
theorem low7_kv : ∀ xs : List (PyData × PyData), lowK xs → ∀ t ∈ PyData.shownKv xs, Low7 t
  | [], _, t, m => by rw [PyData.shownKv_nil] at m; cases m
  | (k, v) :: xs, h, t, m => by
    simp only [lowK] at h
    rw [PyData.shownKv_cons] at m
    rcases List.mem_cons.mp m with rfl | m
    · exact low7_app (low7_app (low7_shown k h.1) (low7_of (by decide +kernel))) (low7_shown v h.2.1)
    · exact low7_kv xs h.2.2 t m
end
theorem ok7 {s : Str} (h : Low7 s) : PyData.strOk s = true := by
  unfold PyData.strOk
  rw [Array.all_eq_true_iff_forall_mem]
  intro c hc
  have := h c (Array.mem_toList_iff.mpr hc)
  exact decide_eq_true (by omega)
theorem shw_of {d : D} (h1 : d.pl3 = true) (h2 : (pd3 d).showable = true) (h3 : (pd3 d).depth ≤ 60) (h4 : lowD (pd3 d)) (h5 : (pd3 d).leavesShort 13 = true) (h6 : (pd3 d).weight ≤ 1000) : Shw d :=
  ⟨h1, h2, h3, ok7 (low7_shown _ h4), by
    have := PyData.shown_le 13 (by decide) (pd3 d) h5
    rw [sizeLine_eq]
    omega⟩
theorem low7_16 {s : Str} (h : Low7 s) : (s.cps.toList.all fun c => decide (c < 16 ^ 8)) = true := List.all_eq_true.mpr fun c hc => decide_eq_true (by have := h c hc; omega)
theorem shw_va {n : Int} (h0 : -500000000 ≤ n) (h1 : n < 500000000) : ∀ e ∈ vaL n, Shw e := by
  have hlog : n.natAbs.log2 < 1920 := log_small (by omega)
  have hR := Rs.int (B := 13) (i := n) (by decide) (by omega)
  have hls : (PyData.int n).leavesShort 13 = true := hR.lv
  have hw : (PyData.int n).weight ≤ 41 := hR.wt
  have lt : Low7 (Str.ofString (toString n)) := low7_int n
  have ltl : (Str.ofString (toString n)).cps.size ≤ 13 := by
    have : (PyData.int n).shown.length ≤ 13 := by simpa only [PyData.leavesShort, decide_eq_true_eq] using hls
    rw [PyData.shown_int] at this
    exact this
  have l16 := low7_16 lt
  have ea : Low7 (Str.ofString "a") := low7_of (by decide +kernel)
  have e0 : Low7 (Str.ofString "") := low7_of (by decide +kernel)
  have e1 : Low7 (Str.ofString "places") := low7_of (by decide +kernel)
  have e2 : Low7 (Str.ofString "pay") := low7_of (by decide +kernel)
  have e3 : Low7 (Str.ofString "n") := low7_of (by decide +kernel)
  have s0 : (PyData.int 0).leavesShort 13 = true := by decide +kernel
  have s1 : (PyData.int 1).leavesShort 13 = true := by decide +kernel
  have w0 : (PyData.int 0).weight ≤ 41 := by decide +kernel
  have w1 : (PyData.int 1).weight ≤ 41 := by decide +kernel
  have sb : ∀ b : Bool, (PyData.bool b).weight = 0 ∧ (PyData.bool b).leavesShort 13 = true := fun b => ⟨rfl, rfl⟩
  intro e he
  unfold vaL at he
  simp only [List.mem_cons, List.not_mem_nil, or_false] at he
  rcases he with rfl | rfl | rfl | rfl | rfl | rfl | rfl | rfl | rfl | rfl | rfl | rfl | rfl | rfl | rfl | rfl | rfl
  all_goals refine shw_of ?_ ?_ ?_ ?_ ?_ ?_
  all_goals first
    | rfl
    | (simp only [pd3, pdA3, pdK3, pk3, PyData.showable, PyData.showableAll, PyData.showableKv, hlog, decide_true, Bool.and_self, Bool.and_true, Bool.true_and]; done)
    | (simp only [pd3, pdA3, pdK3, pk3, lowD, lowA, lowK, and_true, true_and, lt, ea, e0, e1, e2, e3, and_self]; done)
    | (simp [pd3, pdA3, pdK3, pk3, PyData.showable, PyData.showableAll, PyData.showableKv, hlog]; done)
    | (simp [pd3, pdA3, pdK3, pk3, PyData.depth, PyData.depthAll, PyData.depthKv]; done)
    | (simp only [pd3, pdA3, pdK3, pk3, PyData.leavesShortAll, PyData.leavesShortKv, hls, s0, s1, Bool.and_self, Bool.and_true, Bool.true_and, PyData.leavesShort.eq_1]; done)
    | (show (PyData.int n).leavesShort 13 = true; exact hls)
    | (show (PyData.int n).weight ≤ 1000; omega)
    | (show (Str.ofString (toString n)).cps.size ≤ 1000; omega)
    | exact l16
    | (show (PyData.int n).weight + 1 + 0 ≤ 1000; omega)
    | (show ((PyData.int n).leavesShort 13 && true) = true; rw [hls]; rfl)
    | (show (PyData.str (Str.ofString "a")).weight + (PyData.int n).weight + 2 + 0 ≤ 1000; have : (PyData.str (Str.ofString "a")).weight ≤ 10 := (by decide +kernel); omega)
    | (show (((PyData.str (Str.ofString "a")).leavesShort 13 && (PyData.int n).leavesShort 13) && true) = true; rw [hls]; decide +kernel)
    | (show ((PyData.int 0).weight + 1 + ((PyData.int 1).weight + 1 + 0)) + 1 + (((PyData.int 1).weight + 1 + ((PyData.int n).weight + 1 + 0)) + 1 + 0) ≤ 1000; omega)
    | (show (((PyData.int 0).leavesShort 13 && ((PyData.int 1).leavesShort 13 && true)) && (((PyData.int 1).leavesShort 13 && ((PyData.int n).leavesShort 13 && true)) && true)) = true; rw [hls, s0, s1]; rfl)
    | (show (((PyData.int 0).showable && ((PyData.int 1).showable && true)) && (((PyData.int 1).showable && ((PyData.int n).showable && true)) && true)) = true; rw [show (PyData.int n).showable = true from decide_eq_true hlog]; decide +kernel)
    | (decide +kernel)
end
section
/-! ### the classes' facts, off a list -/
theorem all_zip {α : Type} {l : List α} {p : α × Nat → Bool} (h : l.zipIdx.all p = true) {i : Nat} {a : α} (e : l[i]? = some a) : p (a, i) = true :=
  List.all_eq_true.mp h _ (List.mem_zipIdx_iff_getElem?.mpr e)
def caL (l : List Addr) (i : Nat) : Addr := (l[i]?).getD 0
theorem caL_at {l : List Addr} {i : Nat} (h : i < l.length) : l[i]? = some (caL l i) := by
  unfold caL
  rw [List.getElem?_eq_getElem h]
  rfl
section
variable {K : PySem.W.Frag} {mg : Str → Option Value} {l : List Addr}
theorem excC_of {D : Addr} (h : (L3.deX (PySem.W.findIn K (.ref D) "__getattribute__") (some (some (.builtin "BaseException.__getattribute__"))) && (L3.deX (PySem.W.findIn K (.ref D) "__getattr__") (some none) && (L3.deX (PySem.W.subIn K (.ref D) (.type "BaseException")) (some true) && (PySem.W.hasDictIn K D && (L3.deX (PySem.W.findIn K (.ref D) "__class__") (some (some (.builtin "object.__class__"))) && L3.deX (PySem.W.mroIn K D (.type "object")) (some true)))))) = true)
    (hn : PySem.W.specialIn K (.builtin "object.__class__") "__get__" = some (some (.builtin "getset_descriptor.__get__"))) (ht : PySem.W.takesIn K (.builtin "object.__class__") = some true) : ExcC K D := by
  obtain ⟨h1, h⟩ := Bool.and_eq_true_iff.mp h
  obtain ⟨h2, h⟩ := Bool.and_eq_true_iff.mp h
  obtain ⟨h3, h⟩ := Bool.and_eq_true_iff.mp h
  obtain ⟨h4, h⟩ := Bool.and_eq_true_iff.mp h
  obtain ⟨h5, h6⟩ := Bool.and_eq_true_iff.mp h
  exact ⟨deX_ok h1, deX_ok h2, deX_ok h3, h4, deX_ok h5, hn, ht, deX_ok h6⟩
theorem kdok_of (hl : l.length = 20) (hm : ∀ i x, nmX[i]? = some x → mg x = some (.ref (caL l i)))
    (hx : (l.all fun D => L3.deX (PySem.W.findIn K (.ref D) "__getattribute__") (some (some (.builtin "BaseException.__getattribute__"))) && (L3.deX (PySem.W.findIn K (.ref D) "__getattr__") (some none) && (L3.deX (PySem.W.subIn K (.ref D) (.type "BaseException")) (some true) && (PySem.W.hasDictIn K D && (L3.deX (PySem.W.findIn K (.ref D) "__class__") (some (some (.builtin "object.__class__"))) && L3.deX (PySem.W.mroIn K D (.type "object")) (some true)))))) = true)
    (hn : PySem.W.specialIn K (.builtin "object.__class__") "__get__" = some (some (.builtin "getset_descriptor.__get__"))) (ht : PySem.W.takesIn K (.builtin "object.__class__") = some true)
    (hk : (l.zipIdx.all fun a => l.zipIdx.all fun b => decide (17 ≤ b.2) || L3.deX (PySem.W.kitOne K (.ref a.1) (.ref b.1)) (some (decide (a.2 = b.2)))) = true) : KdOk K mg (caL l) := by
  refine ⟨hm, fun i hi => excC_of (List.all_eq_true.mp hx _ (List.mem_of_getElem? (caL_at (by omega)))) hn ht, fun i j hi hj => ?_⟩
  have h1 := all_zip hk (caL_at (l := l) (i := i) (by omega))
  have h2 := all_zip h1 (caL_at (l := l) (i := j) (by omega))
  have h2 : (decide (17 ≤ j) || L3.deX (PySem.W.kitOne K (.ref (caL l i)) (.ref (caL l j))) (some (decide (i = j)))) = true := h2
  rw [decide_eq_false (by omega), Bool.false_or] at h2
  exact deX_ok h2
theorem kdt_of (hl : l.length = 20) (hp : mg "PairError" = some (.ref (caL l 19)) ∧ mg "NoPair" = some (.ref (caL l 17)) ∧ mg "NoVersion" = some (.ref (caL l 18)))
    (hk : (l.zipIdx.all fun a => L3.deX (PySem.W.kitOne K (.ref a.1) (.type "LookupError")) (some (decide (a.2 = 17 ∨ a.2 = 18))) && (L3.deX (PySem.W.kitOne K (.ref a.1) (.type "ValueError")) (some (!decide (a.2 = 17 ∨ a.2 = 18))) && l.zipIdx.all fun b => (decide (b.2 ≠ 19) || L3.deX (PySem.W.kitOne K (.ref a.1) (.ref b.1)) (some (!decide (a.2 = 17 ∨ a.2 = 18)))) && (decide (¬ ((a.2 = 17 ∧ b.2 = 18) ∨ (a.2 = 18 ∧ b.2 = 17))) || L3.deX (PySem.W.kitOne K (.ref a.1) (.ref b.1)) (some false)))) = true) : KdT K mg (caL l) := by
  have key : ∀ i, i < 20 → _ := fun i hi => Bool.and_eq_true_iff.mp (all_zip hk (caL_at (l := l) (i := i) (by omega)))
  have two : ∀ i j, i < 20 → j < 20 → _ := fun i j hi hj => Bool.and_eq_true_iff.mp (all_zip (Bool.and_eq_true_iff.mp (key i hi).2).2 (caL_at (l := l) (i := j) (by omega)))
  refine ⟨hp, fun i hi => deX_ok (key i hi).1, fun i hi => deX_ok (Bool.and_eq_true_iff.mp (key i hi).2).1, fun i hi => ?_, ?_, ?_⟩
  · have h := (two i 19 hi (by decide)).1
    rw [decide_eq_false (by omega), Bool.false_or] at h
    exact deX_ok h
  · have h := (two 17 18 (by decide) (by decide)).2
    rw [decide_eq_false (by omega), Bool.false_or] at h
    exact deX_ok h
  · have h := (two 18 17 (by decide) (by decide)).2
    rw [decide_eq_false (by omega), Bool.false_or] at h
    exact deX_ok h
theorem clsI_of {C : Addr} {f : Str} {i : Int} (h : (match PySem.W.findCls K (.ref C) (.type "type") f with | some (.val (.int j _)) => decide (j = i) | _ => false) = true) : ∃ t, PySem.W.findCls K (.ref C) (.type "type") f = some (.val (.int i t)) := by
  split at h
  · rename_i j t e
    exact ⟨t, by rw [e, of_decide_eq_true h]⟩
  · cases h
end
section
variable {P : Program} {w : World} {K : PySem.W.Frag} {mg : Str → Option Value} {base : Heap} {k : Nat} {ca : Nat → Addr}
theorem mkok_of (h0 : MkI P w K mg base k "BadText" (ca 0) "line") (h1 : MkI P w K mg base k "BadScheme" (ca 1) "error") (h2 : MkI P w K mg base k "BadRule" (ca 2) "error") (h3 : MkI P w K mg base k "BadWord" (ca 3) "word") (h4 : MkI P w K mg base k "BadLength" (ca 4) "length") (h5 : MkI P w K mg base k "NotRight" (ca 5) "which") (h6 : MkI P w K mg base k "NotLeft" (ca 6) "word") (h7 : MkI P w K mg base k "Faulty" (ca 7) "fault") (h13 : MkI P w K mg base k "BadEdit" (ca 13) "index") (h14 : MkI P w K mg base k "Rejected" (ca 14) "index") (h17 : MkI P w K mg base k "NoPair" (ca 17) "index") (h18 : MkI P w K mg base k "NoVersion" (ca 18) "version") (h8 : MkP0 K mg "Busy" (ca 8)) (h9 : MkP0 K mg "TooManyEdits" (ca 9)) (h10 : MkP0 K mg "NothingToUndo" (ca 10)) (h11 : MkP0 K mg "NothingToRedo" (ca 11)) (h12 : MkP0 K mg "BadEdits" (ca 12)) (h15 : MkP0 K mg "TooFar" (ca 15)) (h16 : MkP0 K mg "TooGreat" (ca 16)) (h19 : MkP0 K mg "PairError" (ca 19)) : MkOk P w K mg base k ca :=
  ⟨fun x f i h => by
    unfold flX at h
    simp only [List.mem_cons, Prod.mk.injEq, List.not_mem_nil, or_false] at h
    rcases h with ⟨rfl, rfl, rfl⟩ | ⟨rfl, rfl, rfl⟩ | ⟨rfl, rfl, rfl⟩ | ⟨rfl, rfl, rfl⟩ | ⟨rfl, rfl, rfl⟩ | ⟨rfl, rfl, rfl⟩ | ⟨rfl, rfl, rfl⟩ | ⟨rfl, rfl, rfl⟩ | ⟨rfl, rfl, rfl⟩ | ⟨rfl, rfl, rfl⟩ | ⟨rfl, rfl, rfl⟩ | ⟨rfl, rfl, rfl⟩
    · exact h0
    · exact h1
    · exact h2
    · exact h3
    · exact h4
    · exact h5
    · exact h6
    · exact h7
    · exact h13
    · exact h14
    · exact h17
    · exact h18, fun x i h => by
    unfold brX at h
    simp only [List.mem_cons, Prod.mk.injEq, List.not_mem_nil, or_false] at h
    rcases h with ⟨rfl, rfl⟩ | ⟨rfl, rfl⟩ | ⟨rfl, rfl⟩ | ⟨rfl, rfl⟩ | ⟨rfl, rfl⟩ | ⟨rfl, rfl⟩ | ⟨rfl, rfl⟩ | ⟨rfl, rfl⟩
    · exact h8
    · exact h9
    · exact h10
    · exact h11
    · exact h12
    · exact h15
    · exact h16
    · exact h19⟩
end
end
section
/-! ### errors made by hand: the law -/
local macro_rules | `(tactic| walk_at "e1") => `(tactic| ((with_reducible show EvT _ _ (Expr.Compare _ [CmpOp.Eq] [Expr.List [] _] _) _ _ _); refine t_cmp eqE_ok ?_ (by rfl)))
local macro_rules | `(tactic| walk_at "e1") => `(tactic| ((with_reducible show EvT _ _ (Expr.Compare _ [CmpOp.NotEq] [Expr.List [] _] _) _ _ _); refine t_cmp neE_ok ?_ (by rfl)))
local macro_rules | `(tactic| walk_at "e1") => `(tactic| ((with_reducible show EvK _ _ (Expr.Compare _ [CmpOp.Eq] [Expr.List [] _] _) _ _ _); refine k_cmp eqE_ok ?_ (by rfl)))
local macro_rules | `(tactic| walk_at "e1") => `(tactic| ((with_reducible show EvK _ _ (Expr.Compare _ [CmpOp.NotEq] [Expr.List [] _] _) _ _ _); refine k_cmp neE_ok ?_ (by rfl)))
local macro_rules | `(tactic| walk_at "e1") => `(tactic| ((with_reducible show EvK _ _ (Expr.Call (Expr.Name "repr" _) [_] [] _) _ _ _); refine k_repr3 (by assumption) (by walk_at "nm") (by walk_at "asm") ?_))
local macro_rules | `(tactic| walk_at "e1") => `(tactic| ((with_reducible show StK _ _ (Stmt.Expr (Expr.Call (Expr.Attribute (Expr.Name "_law_value_here" _) "append" _) [_] [] _) _) _ _ _); refine s_appH ?_))
local macro_rules | `(tactic| walk_at "e1") => `(tactic| ((with_reducible show EvK _ _ (Expr.Call (Expr.Name "BadWord" _) [_] _ _) _ _ _); refine k_mkV hpL (by walk_at "asm") (by walk_at "nm") ?_))
local macro_rules | `(tactic| walk_at "e1") => `(tactic| ((with_reducible show EvK _ _ (Expr.Call (Expr.Name "_law_bounds" _) [] _ _) _ _ _); refine k_call0 (by walk_at "asm") (by walk_at "nm") ?_))
theorem puts_hp {K : PySem.W.Frag} {A : Amb} {u u' : (hpA K (exA K A)).U} (h : Puts (hpL (K := K) (A := A)) u u') : u'.1.1 = u.1.1 ∧ u'.2 = u.2 := by
  induction h with
  | refl => exact ⟨rfl, rfl⟩
  | put a c _ ih => exact ih
theorem shw_bd : Shw (.lst (bdX.map .int)) := by
  refine ⟨by decide +kernel, by decide +kernel, by decide +kernel, by decide +kernel, ?_⟩
  exact le_line (by decide +kernel)
section
variable {P : Program} {w : World} {K : PySem.W.Frag} {mg : Str → Option Value} {base : Heap}
theorem ok_law {f fD : Addr} {fd fdD : FuncData} {k : Nat} {ca : Nat → Addr} (F : Fun K "law" "law" s_law f fd)
    (FD : FnG P w K mg base k fD fdD ["_law_script"] (spDeck K)) (gD : mg "_law_deck" = some (.ref fD)) (bD : Binds K fdD ["_law_script"] []) (kD : PySem.W.keepIn K (.ref fD) = true)
    (G1 : ∀ (d c : Addr) (h : d ≠ c), DefK P w K mg base k (deckA d c h) "_law_value" semVa)
    (G2 : ∀ (d c : Addr) (h : d ≠ c), DefK P w K mg base k (hpA K (exA K (deckA d c h))) "_law_kinds_right" (semKr hpL))
    (G3 : ∀ (d c : Addr) (h : d ≠ c), DefK P w K mg base k (hpA K (exA K (deckA d c h))) "_law_fields_right" (semFr hpL))
    (G4 : ∀ (d c : Addr) (h : d ≠ c), DefK P w K mg base k (hpA K (exA K (deckA d c h))) "_law_bounds" semBn)
    (T : MkOk P w K mg base k ca) (hsm : BaseSm base) (mr : mg "range" = none) (mp : mg "repr" = none) : FnG P w K mg base (k + 1) f fd ["_law_script"] (spLaw K) := by
  refine law_fn F sc_law rfl (by walk_at "nm") (by constructor) (by walk_at "nm") (by constructor) (by walk_at "nm") FD gD bD kD fun d c hdc => ?_
  have g1 := (G1 d c hdc).exl.hp
  have g2 := G2 d c hdc
  have g3 := G3 d c hdc
  have g4 := G4 d c hdc
  clear G1 G2 G3 G4
  have M3 : MkI P w K mg base k "BadWord" (ca 3) "word" := T.M _ _ _ (by decide +kernel)
  simp only [begin_]
  refine r_ex ?_
  refine r_heap ?_
  walk_at "ev"
  refine s_forSR (S := Unit) (xs := ["_law_turn"]) (fun _ _ => False) (fun _ _ z => z.elim) ?_
  walk_at "ev"
  refine ⟨_, rfl, by decide, by decide, ?_⟩
  refine ⟨fun _ => ([("_law_script", .un), ("_law_deck_here", .dat (.obj d)), ("_law_turn", .un), ("_law_a", .un), ("_law_value_here", .un), ("_law_error", .un)] : NE), fun j _ (u : (Nat × XCells) × Cells) => u.1.1 ≤ j * 2, (), by walk_at "fg", Nat.le_refl _, ?_, ?_⟩
  · rintro j dj _ ⟨⟨(m : Nat), xs⟩, cs⟩ hd hm
    obtain ⟨hj, rfl⟩ := rgs_at hd
    have hj : j < 4 := hj
    have hm : m ≤ j * 2 := hm
    walk_at "ev"
    refine ⟨rfl, by show m + 2 ≤ _; omega, fun n v h0 h1 hv => ?_⟩
    have hsv := shw_va h0 h1 v hv
    walk_at "ev"
    refine ⟨_, rfl, fun u1 p1 => ?_⟩
    walk_at "ev"
    refine Br.f ?_
    walk_at "ev"
    refine ⟨_, rfl, hsv, fun u2 p2 => ?_⟩
    walk_at "ev"
    refine Br.f ?_
    walk_at "ev"
    refine ⟨(), by walk_at "fg", ?_⟩
    have e1 := (puts_hp p1).1
    have e2 := (puts_hp p2).1
    show (u2.1.1 : Nat) ≤ (j + 1) * 2
    rw [e2, e1]
    show m + 2 ≤ _
    omega
  rintro _ ⟨⟨(m : Nat), xs⟩, cs⟩ hm
  refine r_consC ?_
  refine s_set (by walk_at "spl") (by walk_at "nm") (by constructor) ?_
  refine k_newH ?_
  walk_at "ev"
  intro z hz
  walk_at "ev"
  intro a ha
  walk_at "ev"
  refine ⟨z, _, rfl, Cells.put_same, ?_⟩
  walk_at "ev"
  refine ⟨_, Cells.put_same, by rw [sizeLine_eq]; decide, ?_⟩
  refine r_consC ?_
  refine s_if ?_
  refine t_cmpH ne_ok ?_ (by rfl)
  refine k_xfV hpL ?_
  walk_at "ev"
  refine ⟨a, _, _, rfl, XCells.put_same, (mki_xf M3).1, (mki_xf M3).2, ?_⟩
  walk_at "ev"
  refine ⟨_, .inr ⟨z, _, rfl, Cells.put_same, rfl⟩, ?_⟩
  refine ⟨⟨by decide +kernel, by decide +kernel, by decide +kernel, by decide +kernel, by decide +kernel⟩, ?_⟩
  rw [show PyData.eqv (pd (D.lst ([D.int 7] ++ [D.int 8]))) (pd (D.lst [D.int 7, D.int 8])) = true by decide +kernel]
  refine Br.f ?_
  walk_at "ev"
  refine ⟨rfl, ?_⟩
  walk_at "ev"
  refine ⟨shw_bd.1, shw_bd.2.1, shw_bd.2.2.1, shw_bd.2.2.2.2, ?_⟩
  walk_at "ev"
  refine ⟨shw_bd.1, shw_bd.2.1, shw_bd.2.2.1, shw_bd.2.2.2.2, ?_⟩
  walk_at "ev"
  show D.bl (decide (_ = _)) = D.bl true
  exact congrArg D.bl (decide_eq_true (show (pd3 (D.lst (bdX.map D.int))).shown = (pd3 (D.lst (bdX.map D.int))).shown from rfl))
end
end
@[elab_as_elim] theorem cN0 {α : Type} {P : List α → Prop} (us : List α) (h : us.length = 0) (k : P []) : P us := match us, h with | [], _ => k
@[elab_as_elim] theorem cN1 {α : Type} {P : List α → Prop} (us : List α) (h : us.length = 1) (k : ∀ a0, P [a0]) : P us := match us, h with | [a0], _ => k a0
@[elab_as_elim] theorem cN2 {α : Type} {P : List α → Prop} (us : List α) (h : us.length = 2) (k : ∀ a0 a1, P [a0, a1]) : P us := match us, h with | [a0, a1], _ => k a0 a1
theorem all_mk {l : PySem.W.OpenLaw} {w : World} {K : PySem.W.Frag} {h : Heap} {mg : Str → Option Value} {fa f0 f1 f2 f3 f4 f5 f6 f7 f8 : Addr} (X : K.In h) (G : h.Ns mainGlobals mg) (hfa : mg "law" = some (.ref fa))
    {od0 an0 od1 an1 od2 an2 od3 an3 od4 an4 od5 an5 od6 an6 od7 an7 od8 an8 : Option Addr} {sl0 sl1 sl2 sl3 sl4 sl5 sl6 sl7 sl8 : Array (Option Value)} {oc0 kV0 dc0 pm0 cd0 ct0 oc1 kV1 dc1 pm1 cd1 ct1 oc2 kV2 dc2 pm2 cd2 ct2 oc3 kV3 dc3 pm3 cd3 ct3 oc4 kV4 dc4 pm4 cd4 ct4 oc5 kV5 dc5 pm5 cd5 ct5 oc6 kV6 dc6 pm6 cd6 ct6 oc7 kV7 dc7 pm7 cd7 ct7 oc8 kV8 dc8 pm8 cd8 ct8 : Value}
    {tk0 tk1 tk2 tk3 tk4 tk5 tk6 tk7 tk8 : Tok}
    (a0 : PySem.W.nsIn K mainGlobals "_law_deck" = some (some (.ref f0))) (l0 : K.lookup f0 = some ⟨oc0, od0, .func (PySem.W.fnOf "_law_deck" "_law_deck" (defArgs s_l_deck) (defBody s_l_deck) (defScope s_l_deck) .none kV0 dc0 pm0 an0 cd0 ct0), sl0⟩) (c0 : PySem.W.codeIn K cd0 "_law_deck" = true) (k0 : PySem.W.keepIn K (.ref f0) = true)
    (a1 : PySem.W.nsIn K mainGlobals "_law_draw" = some (some (.ref f1))) (l1 : K.lookup f1 = some ⟨oc1, od1, .func (PySem.W.fnOf "_law_draw" "_law_draw" (defArgs s_l_draw) (defBody s_l_draw) (defScope s_l_draw) .none kV1 dc1 pm1 an1 cd1 ct1), sl1⟩) (c1 : PySem.W.codeIn K cd1 "_law_draw" = true) (k1 : PySem.W.keepIn K (.ref f1) = true)
    (a2 : PySem.W.nsIn K mainGlobals "_law_one" = some (some (.ref f2))) (l2 : K.lookup f2 = some ⟨oc2, od2, .func (PySem.W.fnOf "_law_one" "_law_one" (defArgs s_l_one) (defBody s_l_one) (defScope s_l_one) .none kV2 dc2 pm2 an2 cd2 ct2), sl2⟩) (c2 : PySem.W.codeIn K cd2 "_law_one" = true) (k2 : PySem.W.keepIn K (.ref f2) = true)
    (a3 : PySem.W.nsIn K mainGlobals "_law_value" = some (some (.ref f3))) (l3 : K.lookup f3 = some ⟨oc3, od3, .func (PySem.W.fnOf "_law_value" "_law_value" (defArgs s_l_value) (defBody s_l_value) (defScope s_l_value) .none kV3 dc3 pm3 an3 cd3 ct3), sl3⟩) (c3 : PySem.W.codeIn K cd3 "_law_value" = true) (k3 : PySem.W.keepIn K (.ref f3) = true)
    (a4 : PySem.W.nsIn K mainGlobals "_law_kinds" = some (some (.ref f4))) (l4 : K.lookup f4 = some ⟨oc4, od4, .func (PySem.W.fnOf "_law_kinds" "_law_kinds" (defArgs s_l_kinds) (defBody s_l_kinds) (defScope s_l_kinds) .none kV4 dc4 pm4 an4 cd4 ct4), sl4⟩) (c4 : PySem.W.codeIn K cd4 "_law_kinds" = true) (k4 : PySem.W.keepIn K (.ref f4) = true)
    (a5 : PySem.W.nsIn K mainGlobals "_law_kinds_right" = some (some (.ref f5))) (l5 : K.lookup f5 = some ⟨oc5, od5, .func (PySem.W.fnOf "_law_kinds_right" "_law_kinds_right" (defArgs s_l_kinds_right) (defBody s_l_kinds_right) (defScope s_l_kinds_right) .none kV5 dc5 pm5 an5 cd5 ct5), sl5⟩) (c5 : PySem.W.codeIn K cd5 "_law_kinds_right" = true) (k5 : PySem.W.keepIn K (.ref f5) = true)
    (a6 : PySem.W.nsIn K mainGlobals "_law_fields_right" = some (some (.ref f6))) (l6 : K.lookup f6 = some ⟨oc6, od6, .func (PySem.W.fnOf "_law_fields_right" "_law_fields_right" (defArgs s_l_fields_right) (defBody s_l_fields_right) (defScope s_l_fields_right) .none kV6 dc6 pm6 an6 cd6 ct6), sl6⟩) (c6 : PySem.W.codeIn K cd6 "_law_fields_right" = true) (k6 : PySem.W.keepIn K (.ref f6) = true)
    (a7 : PySem.W.nsIn K mainGlobals "_law_bounds" = some (some (.ref f7))) (l7 : K.lookup f7 = some ⟨oc7, od7, .func (PySem.W.fnOf "_law_bounds" "_law_bounds" (defArgs s_l_bounds) (defBody s_l_bounds) (defScope s_l_bounds) .none kV7 dc7 pm7 an7 cd7 ct7), sl7⟩) (c7 : PySem.W.codeIn K cd7 "_law_bounds" = true) (k7 : PySem.W.keepIn K (.ref f7) = true)
    (a8 : PySem.W.nsIn K mainGlobals "law" = some (some (.ref f8))) (l8 : K.lookup f8 = some ⟨oc8, od8, .func (PySem.W.fnOf "law" "law" (defArgs s_law) (defBody s_law) (defScope s_law) .none kV8 dc8 pm8 an8 cd8 ct8), sl8⟩) (c8 : PySem.W.codeIn K cd8 "law" = true) (k8 : PySem.W.keepIn K (.ref f8) = true)
    (u0_ : PySem.W.nsIn K mainGlobals "MAX_LETTERS" = some (some (.int 4 tk0)))
    (u1_ : PySem.W.nsIn K mainGlobals "MAX_STATES" = some (some (.int 8 tk1)))
    (u2_ : PySem.W.nsIn K mainGlobals "MAX_ROWS" = some (some (.int 400 tk2)))
    (u3_ : PySem.W.nsIn K mainGlobals "MAX_PAIRS" = some (some (.int 6 tk3)))
    (u4_ : PySem.W.nsIn K mainGlobals "MAX_WINDOW" = some (some (.int 3 tk4)))
    (u5_ : PySem.W.nsIn K mainGlobals "MAX_LENGTH" = some (some (.int 400 tk5)))
    (u6_ : PySem.W.nsIn K mainGlobals "MAX_STEPS" = some (some (.int 10000 tk6)))
    (u7_ : PySem.W.nsIn K mainGlobals "MAX_EDITS" = some (some (.int 60 tk7)))
    (u8_ : PySem.W.nsIn K mainGlobals "BATCH" = some (some (.int 20 tk8)))
    {CB : Addr}
    (gB : PySem.W.nsIn K mainGlobals "PairError" = some (some (.ref CB)))
    (rB : PySem.W.readsIn K CB (.type "type") = true)
    (fB : PySem.W.findCls K (.ref CB) (.type "type") "__init__" = some (.val (.builtin "ValueError.__init__")))
    (sB : PySem.W.specialIn K (.ref CB) "__getattribute__" = some (some (.builtin "type.__getattribute__")))
    (f_LE : PySem.W.findCls K (.type "LookupError") (.type "type") "__init__" = some (.val (.builtin "LookupError.__init__")))
    {C_Busy : Addr}
    (g_Busy : PySem.W.nsIn K mainGlobals "Busy" = some (some (.ref C_Busy)))
    (k_Busy : PySem.W.keepIn K (.ref C_Busy) = true)
    (q_Busy : PySem.W.excIn K C_Busy [.type "ValueError", .type "Exception", .type "BaseException", .type "object"] "ValueError.__new__" = true)
    (ex_Busy : PySem.W.subIn K (.ref C_Busy) (.type "BaseException") = some true)
    (ty_Busy : PySem.W.typeIn K (.ref C_Busy) = some (.type "type"))
    {C_TooManyEdits : Addr}
    (g_TooManyEdits : PySem.W.nsIn K mainGlobals "TooManyEdits" = some (some (.ref C_TooManyEdits)))
    (k_TooManyEdits : PySem.W.keepIn K (.ref C_TooManyEdits) = true)
    (q_TooManyEdits : PySem.W.excIn K C_TooManyEdits [.type "ValueError", .type "Exception", .type "BaseException", .type "object"] "ValueError.__new__" = true)
    (ex_TooManyEdits : PySem.W.subIn K (.ref C_TooManyEdits) (.type "BaseException") = some true)
    (ty_TooManyEdits : PySem.W.typeIn K (.ref C_TooManyEdits) = some (.type "type"))
    {C_NothingToUndo : Addr}
    (g_NothingToUndo : PySem.W.nsIn K mainGlobals "NothingToUndo" = some (some (.ref C_NothingToUndo)))
    (k_NothingToUndo : PySem.W.keepIn K (.ref C_NothingToUndo) = true)
    (q_NothingToUndo : PySem.W.excIn K C_NothingToUndo [.type "ValueError", .type "Exception", .type "BaseException", .type "object"] "ValueError.__new__" = true)
    (ex_NothingToUndo : PySem.W.subIn K (.ref C_NothingToUndo) (.type "BaseException") = some true)
    (ty_NothingToUndo : PySem.W.typeIn K (.ref C_NothingToUndo) = some (.type "type"))
    {C_NothingToRedo : Addr}
    (g_NothingToRedo : PySem.W.nsIn K mainGlobals "NothingToRedo" = some (some (.ref C_NothingToRedo)))
    (k_NothingToRedo : PySem.W.keepIn K (.ref C_NothingToRedo) = true)
    (q_NothingToRedo : PySem.W.excIn K C_NothingToRedo [.type "ValueError", .type "Exception", .type "BaseException", .type "object"] "ValueError.__new__" = true)
    (ex_NothingToRedo : PySem.W.subIn K (.ref C_NothingToRedo) (.type "BaseException") = some true)
    (ty_NothingToRedo : PySem.W.typeIn K (.ref C_NothingToRedo) = some (.type "type"))
    {C_BadEdits : Addr}
    (g_BadEdits : PySem.W.nsIn K mainGlobals "BadEdits" = some (some (.ref C_BadEdits)))
    (k_BadEdits : PySem.W.keepIn K (.ref C_BadEdits) = true)
    (q_BadEdits : PySem.W.excIn K C_BadEdits [.type "ValueError", .type "Exception", .type "BaseException", .type "object"] "ValueError.__new__" = true)
    (ex_BadEdits : PySem.W.subIn K (.ref C_BadEdits) (.type "BaseException") = some true)
    (ty_BadEdits : PySem.W.typeIn K (.ref C_BadEdits) = some (.type "type"))
    {C_TooFar : Addr}
    (g_TooFar : PySem.W.nsIn K mainGlobals "TooFar" = some (some (.ref C_TooFar)))
    (k_TooFar : PySem.W.keepIn K (.ref C_TooFar) = true)
    (q_TooFar : PySem.W.excIn K C_TooFar [.type "ValueError", .type "Exception", .type "BaseException", .type "object"] "ValueError.__new__" = true)
    (ex_TooFar : PySem.W.subIn K (.ref C_TooFar) (.type "BaseException") = some true)
    (ty_TooFar : PySem.W.typeIn K (.ref C_TooFar) = some (.type "type"))
    {C_TooGreat : Addr}
    (g_TooGreat : PySem.W.nsIn K mainGlobals "TooGreat" = some (some (.ref C_TooGreat)))
    (k_TooGreat : PySem.W.keepIn K (.ref C_TooGreat) = true)
    (q_TooGreat : PySem.W.excIn K C_TooGreat [.type "ValueError", .type "Exception", .type "BaseException", .type "object"] "ValueError.__new__" = true)
    (ex_TooGreat : PySem.W.subIn K (.ref C_TooGreat) (.type "BaseException") = some true)
    (ty_TooGreat : PySem.W.typeIn K (.ref C_TooGreat) = some (.type "type"))
    {C_PairError : Addr}
    (g_PairError : PySem.W.nsIn K mainGlobals "PairError" = some (some (.ref C_PairError)))
    (k_PairError : PySem.W.keepIn K (.ref C_PairError) = true)
    (q_PairError : PySem.W.excIn K C_PairError [.type "ValueError", .type "Exception", .type "BaseException", .type "object"] "ValueError.__new__" = true)
    (ex_PairError : PySem.W.subIn K (.ref C_PairError) (.type "BaseException") = some true)
    (ty_PairError : PySem.W.typeIn K (.ref C_PairError) = some (.type "type"))
    {C_BadText fI_BadText : Addr}
    (g_BadText : PySem.W.nsIn K mainGlobals "BadText" = some (some (.ref C_BadText)))
    (k_BadText : PySem.W.keepIn K (.ref C_BadText) = true)
    (q_BadText : PySem.W.excInitIn K C_BadText [.type "ValueError", .type "Exception", .type "BaseException", .type "object"] "ValueError.__new__" = true)
    (ov_BadText : PySem.W.excOver K C_BadText [.type "ValueError", .type "Exception", .type "BaseException", .type "object"] = true)
    (hd_BadText : PySem.W.hasDictIn K C_BadText = true)
    (sa_BadText : PySem.W.findIn K (.ref C_BadText) "__setattr__" = some (some (.builtin "object.__setattr__")))
    (ga_BadText : PySem.W.findIn K (.ref C_BadText) "__getattribute__" = some (some (.builtin "BaseException.__getattribute__")))
    (gg_BadText : PySem.W.findIn K (.ref C_BadText) "__getattr__" = some none)
    (ex_BadText : PySem.W.subIn K (.ref C_BadText) (.type "BaseException") = some true)
    (ty_BadText : PySem.W.typeIn K (.ref C_BadText) = some (.type "type"))
    (no_BadText : PySem.W.findIn K (.ref C_BadText) "line" = some none)
    (i_BadText : PySem.W.findIn K (.ref C_BadText) "__init__" = some (some (.ref fI_BadText)))
    (tI_BadText : PySem.W.typeIn K (.ref fI_BadText) = some (.type "function"))
    {oc_BadText : Value} {od_BadText : Option Addr} {kV_BadText dc_BadText pm_BadText : Value} {an_BadText : Option Addr} {cd_BadText ct_BadText : Value} {sl_BadText : Array (Option Value)}
    (la_BadText : K.lookup fI_BadText = some ⟨oc_BadText, od_BadText, .func (PySem.W.fnOf "__init__" "BadText.__init__" (defArgs s_BadText___init__) (defBody s_BadText___init__) (defScope s_BadText___init__) .none kV_BadText dc_BadText pm_BadText an_BadText cd_BadText ct_BadText), sl_BadText⟩)
    (ca_BadText : PySem.W.codeIn K cd_BadText "BadText.__init__" = true)
    (ka_BadText : PySem.W.keepIn K (.ref fI_BadText) = true)
    {C_BadScheme fI_BadScheme : Addr}
    (g_BadScheme : PySem.W.nsIn K mainGlobals "BadScheme" = some (some (.ref C_BadScheme)))
    (k_BadScheme : PySem.W.keepIn K (.ref C_BadScheme) = true)
    (q_BadScheme : PySem.W.excInitIn K C_BadScheme [.type "ValueError", .type "Exception", .type "BaseException", .type "object"] "ValueError.__new__" = true)
    (ov_BadScheme : PySem.W.excOver K C_BadScheme [.type "ValueError", .type "Exception", .type "BaseException", .type "object"] = true)
    (hd_BadScheme : PySem.W.hasDictIn K C_BadScheme = true)
    (sa_BadScheme : PySem.W.findIn K (.ref C_BadScheme) "__setattr__" = some (some (.builtin "object.__setattr__")))
    (ga_BadScheme : PySem.W.findIn K (.ref C_BadScheme) "__getattribute__" = some (some (.builtin "BaseException.__getattribute__")))
    (gg_BadScheme : PySem.W.findIn K (.ref C_BadScheme) "__getattr__" = some none)
    (ex_BadScheme : PySem.W.subIn K (.ref C_BadScheme) (.type "BaseException") = some true)
    (ty_BadScheme : PySem.W.typeIn K (.ref C_BadScheme) = some (.type "type"))
    (no_BadScheme : PySem.W.findIn K (.ref C_BadScheme) "error" = some none)
    (i_BadScheme : PySem.W.findIn K (.ref C_BadScheme) "__init__" = some (some (.ref fI_BadScheme)))
    (tI_BadScheme : PySem.W.typeIn K (.ref fI_BadScheme) = some (.type "function"))
    {oc_BadScheme : Value} {od_BadScheme : Option Addr} {kV_BadScheme dc_BadScheme pm_BadScheme : Value} {an_BadScheme : Option Addr} {cd_BadScheme ct_BadScheme : Value} {sl_BadScheme : Array (Option Value)}
    (la_BadScheme : K.lookup fI_BadScheme = some ⟨oc_BadScheme, od_BadScheme, .func (PySem.W.fnOf "__init__" "BadScheme.__init__" (defArgs s_BadScheme___init__) (defBody s_BadScheme___init__) (defScope s_BadScheme___init__) .none kV_BadScheme dc_BadScheme pm_BadScheme an_BadScheme cd_BadScheme ct_BadScheme), sl_BadScheme⟩)
    (ca_BadScheme : PySem.W.codeIn K cd_BadScheme "BadScheme.__init__" = true)
    (ka_BadScheme : PySem.W.keepIn K (.ref fI_BadScheme) = true)
    {C_BadRule fI_BadRule : Addr}
    (g_BadRule : PySem.W.nsIn K mainGlobals "BadRule" = some (some (.ref C_BadRule)))
    (k_BadRule : PySem.W.keepIn K (.ref C_BadRule) = true)
    (q_BadRule : PySem.W.excInitIn K C_BadRule [.type "ValueError", .type "Exception", .type "BaseException", .type "object"] "ValueError.__new__" = true)
    (ov_BadRule : PySem.W.excOver K C_BadRule [.type "ValueError", .type "Exception", .type "BaseException", .type "object"] = true)
    (hd_BadRule : PySem.W.hasDictIn K C_BadRule = true)
    (sa_BadRule : PySem.W.findIn K (.ref C_BadRule) "__setattr__" = some (some (.builtin "object.__setattr__")))
    (ga_BadRule : PySem.W.findIn K (.ref C_BadRule) "__getattribute__" = some (some (.builtin "BaseException.__getattribute__")))
    (gg_BadRule : PySem.W.findIn K (.ref C_BadRule) "__getattr__" = some none)
    (ex_BadRule : PySem.W.subIn K (.ref C_BadRule) (.type "BaseException") = some true)
    (ty_BadRule : PySem.W.typeIn K (.ref C_BadRule) = some (.type "type"))
    (no_BadRule : PySem.W.findIn K (.ref C_BadRule) "error" = some none)
    (i_BadRule : PySem.W.findIn K (.ref C_BadRule) "__init__" = some (some (.ref fI_BadRule)))
    (tI_BadRule : PySem.W.typeIn K (.ref fI_BadRule) = some (.type "function"))
    {oc_BadRule : Value} {od_BadRule : Option Addr} {kV_BadRule dc_BadRule pm_BadRule : Value} {an_BadRule : Option Addr} {cd_BadRule ct_BadRule : Value} {sl_BadRule : Array (Option Value)}
    (la_BadRule : K.lookup fI_BadRule = some ⟨oc_BadRule, od_BadRule, .func (PySem.W.fnOf "__init__" "BadRule.__init__" (defArgs s_BadRule___init__) (defBody s_BadRule___init__) (defScope s_BadRule___init__) .none kV_BadRule dc_BadRule pm_BadRule an_BadRule cd_BadRule ct_BadRule), sl_BadRule⟩)
    (ca_BadRule : PySem.W.codeIn K cd_BadRule "BadRule.__init__" = true)
    (ka_BadRule : PySem.W.keepIn K (.ref fI_BadRule) = true)
    {C_BadWord fI_BadWord : Addr}
    (g_BadWord : PySem.W.nsIn K mainGlobals "BadWord" = some (some (.ref C_BadWord)))
    (k_BadWord : PySem.W.keepIn K (.ref C_BadWord) = true)
    (q_BadWord : PySem.W.excInitIn K C_BadWord [.type "ValueError", .type "Exception", .type "BaseException", .type "object"] "ValueError.__new__" = true)
    (ov_BadWord : PySem.W.excOver K C_BadWord [.type "ValueError", .type "Exception", .type "BaseException", .type "object"] = true)
    (hd_BadWord : PySem.W.hasDictIn K C_BadWord = true)
    (sa_BadWord : PySem.W.findIn K (.ref C_BadWord) "__setattr__" = some (some (.builtin "object.__setattr__")))
    (ga_BadWord : PySem.W.findIn K (.ref C_BadWord) "__getattribute__" = some (some (.builtin "BaseException.__getattribute__")))
    (gg_BadWord : PySem.W.findIn K (.ref C_BadWord) "__getattr__" = some none)
    (ex_BadWord : PySem.W.subIn K (.ref C_BadWord) (.type "BaseException") = some true)
    (ty_BadWord : PySem.W.typeIn K (.ref C_BadWord) = some (.type "type"))
    (no_BadWord : PySem.W.findIn K (.ref C_BadWord) "word" = some none)
    (i_BadWord : PySem.W.findIn K (.ref C_BadWord) "__init__" = some (some (.ref fI_BadWord)))
    (tI_BadWord : PySem.W.typeIn K (.ref fI_BadWord) = some (.type "function"))
    {oc_BadWord : Value} {od_BadWord : Option Addr} {kV_BadWord dc_BadWord pm_BadWord : Value} {an_BadWord : Option Addr} {cd_BadWord ct_BadWord : Value} {sl_BadWord : Array (Option Value)}
    (la_BadWord : K.lookup fI_BadWord = some ⟨oc_BadWord, od_BadWord, .func (PySem.W.fnOf "__init__" "BadWord.__init__" (defArgs s_BadWord___init__) (defBody s_BadWord___init__) (defScope s_BadWord___init__) .none kV_BadWord dc_BadWord pm_BadWord an_BadWord cd_BadWord ct_BadWord), sl_BadWord⟩)
    (ca_BadWord : PySem.W.codeIn K cd_BadWord "BadWord.__init__" = true)
    (ka_BadWord : PySem.W.keepIn K (.ref fI_BadWord) = true)
    {C_BadLength fI_BadLength : Addr}
    (g_BadLength : PySem.W.nsIn K mainGlobals "BadLength" = some (some (.ref C_BadLength)))
    (k_BadLength : PySem.W.keepIn K (.ref C_BadLength) = true)
    (q_BadLength : PySem.W.excInitIn K C_BadLength [.type "ValueError", .type "Exception", .type "BaseException", .type "object"] "ValueError.__new__" = true)
    (ov_BadLength : PySem.W.excOver K C_BadLength [.type "ValueError", .type "Exception", .type "BaseException", .type "object"] = true)
    (hd_BadLength : PySem.W.hasDictIn K C_BadLength = true)
    (sa_BadLength : PySem.W.findIn K (.ref C_BadLength) "__setattr__" = some (some (.builtin "object.__setattr__")))
    (ga_BadLength : PySem.W.findIn K (.ref C_BadLength) "__getattribute__" = some (some (.builtin "BaseException.__getattribute__")))
    (gg_BadLength : PySem.W.findIn K (.ref C_BadLength) "__getattr__" = some none)
    (ex_BadLength : PySem.W.subIn K (.ref C_BadLength) (.type "BaseException") = some true)
    (ty_BadLength : PySem.W.typeIn K (.ref C_BadLength) = some (.type "type"))
    (no_BadLength : PySem.W.findIn K (.ref C_BadLength) "length" = some none)
    (i_BadLength : PySem.W.findIn K (.ref C_BadLength) "__init__" = some (some (.ref fI_BadLength)))
    (tI_BadLength : PySem.W.typeIn K (.ref fI_BadLength) = some (.type "function"))
    {oc_BadLength : Value} {od_BadLength : Option Addr} {kV_BadLength dc_BadLength pm_BadLength : Value} {an_BadLength : Option Addr} {cd_BadLength ct_BadLength : Value} {sl_BadLength : Array (Option Value)}
    (la_BadLength : K.lookup fI_BadLength = some ⟨oc_BadLength, od_BadLength, .func (PySem.W.fnOf "__init__" "BadLength.__init__" (defArgs s_BadLength___init__) (defBody s_BadLength___init__) (defScope s_BadLength___init__) .none kV_BadLength dc_BadLength pm_BadLength an_BadLength cd_BadLength ct_BadLength), sl_BadLength⟩)
    (ca_BadLength : PySem.W.codeIn K cd_BadLength "BadLength.__init__" = true)
    (ka_BadLength : PySem.W.keepIn K (.ref fI_BadLength) = true)
    {C_NotRight fI_NotRight : Addr}
    (g_NotRight : PySem.W.nsIn K mainGlobals "NotRight" = some (some (.ref C_NotRight)))
    (k_NotRight : PySem.W.keepIn K (.ref C_NotRight) = true)
    (q_NotRight : PySem.W.excInitIn K C_NotRight [.type "ValueError", .type "Exception", .type "BaseException", .type "object"] "ValueError.__new__" = true)
    (ov_NotRight : PySem.W.excOver K C_NotRight [.type "ValueError", .type "Exception", .type "BaseException", .type "object"] = true)
    (hd_NotRight : PySem.W.hasDictIn K C_NotRight = true)
    (sa_NotRight : PySem.W.findIn K (.ref C_NotRight) "__setattr__" = some (some (.builtin "object.__setattr__")))
    (ga_NotRight : PySem.W.findIn K (.ref C_NotRight) "__getattribute__" = some (some (.builtin "BaseException.__getattribute__")))
    (gg_NotRight : PySem.W.findIn K (.ref C_NotRight) "__getattr__" = some none)
    (ex_NotRight : PySem.W.subIn K (.ref C_NotRight) (.type "BaseException") = some true)
    (ty_NotRight : PySem.W.typeIn K (.ref C_NotRight) = some (.type "type"))
    (no_NotRight : PySem.W.findIn K (.ref C_NotRight) "which" = some none)
    (i_NotRight : PySem.W.findIn K (.ref C_NotRight) "__init__" = some (some (.ref fI_NotRight)))
    (tI_NotRight : PySem.W.typeIn K (.ref fI_NotRight) = some (.type "function"))
    {oc_NotRight : Value} {od_NotRight : Option Addr} {kV_NotRight dc_NotRight pm_NotRight : Value} {an_NotRight : Option Addr} {cd_NotRight ct_NotRight : Value} {sl_NotRight : Array (Option Value)}
    (la_NotRight : K.lookup fI_NotRight = some ⟨oc_NotRight, od_NotRight, .func (PySem.W.fnOf "__init__" "NotRight.__init__" (defArgs s_NotRight___init__) (defBody s_NotRight___init__) (defScope s_NotRight___init__) .none kV_NotRight dc_NotRight pm_NotRight an_NotRight cd_NotRight ct_NotRight), sl_NotRight⟩)
    (ca_NotRight : PySem.W.codeIn K cd_NotRight "NotRight.__init__" = true)
    (ka_NotRight : PySem.W.keepIn K (.ref fI_NotRight) = true)
    {C_NotLeft fI_NotLeft : Addr}
    (g_NotLeft : PySem.W.nsIn K mainGlobals "NotLeft" = some (some (.ref C_NotLeft)))
    (k_NotLeft : PySem.W.keepIn K (.ref C_NotLeft) = true)
    (q_NotLeft : PySem.W.excInitIn K C_NotLeft [.type "ValueError", .type "Exception", .type "BaseException", .type "object"] "ValueError.__new__" = true)
    (ov_NotLeft : PySem.W.excOver K C_NotLeft [.type "ValueError", .type "Exception", .type "BaseException", .type "object"] = true)
    (hd_NotLeft : PySem.W.hasDictIn K C_NotLeft = true)
    (sa_NotLeft : PySem.W.findIn K (.ref C_NotLeft) "__setattr__" = some (some (.builtin "object.__setattr__")))
    (ga_NotLeft : PySem.W.findIn K (.ref C_NotLeft) "__getattribute__" = some (some (.builtin "BaseException.__getattribute__")))
    (gg_NotLeft : PySem.W.findIn K (.ref C_NotLeft) "__getattr__" = some none)
    (ex_NotLeft : PySem.W.subIn K (.ref C_NotLeft) (.type "BaseException") = some true)
    (ty_NotLeft : PySem.W.typeIn K (.ref C_NotLeft) = some (.type "type"))
    (no_NotLeft : PySem.W.findIn K (.ref C_NotLeft) "word" = some none)
    (i_NotLeft : PySem.W.findIn K (.ref C_NotLeft) "__init__" = some (some (.ref fI_NotLeft)))
    (tI_NotLeft : PySem.W.typeIn K (.ref fI_NotLeft) = some (.type "function"))
    {oc_NotLeft : Value} {od_NotLeft : Option Addr} {kV_NotLeft dc_NotLeft pm_NotLeft : Value} {an_NotLeft : Option Addr} {cd_NotLeft ct_NotLeft : Value} {sl_NotLeft : Array (Option Value)}
    (la_NotLeft : K.lookup fI_NotLeft = some ⟨oc_NotLeft, od_NotLeft, .func (PySem.W.fnOf "__init__" "NotLeft.__init__" (defArgs s_NotLeft___init__) (defBody s_NotLeft___init__) (defScope s_NotLeft___init__) .none kV_NotLeft dc_NotLeft pm_NotLeft an_NotLeft cd_NotLeft ct_NotLeft), sl_NotLeft⟩)
    (ca_NotLeft : PySem.W.codeIn K cd_NotLeft "NotLeft.__init__" = true)
    (ka_NotLeft : PySem.W.keepIn K (.ref fI_NotLeft) = true)
    {C_Faulty fI_Faulty : Addr}
    (g_Faulty : PySem.W.nsIn K mainGlobals "Faulty" = some (some (.ref C_Faulty)))
    (k_Faulty : PySem.W.keepIn K (.ref C_Faulty) = true)
    (q_Faulty : PySem.W.excInitIn K C_Faulty [.type "ValueError", .type "Exception", .type "BaseException", .type "object"] "ValueError.__new__" = true)
    (ov_Faulty : PySem.W.excOver K C_Faulty [.type "ValueError", .type "Exception", .type "BaseException", .type "object"] = true)
    (hd_Faulty : PySem.W.hasDictIn K C_Faulty = true)
    (sa_Faulty : PySem.W.findIn K (.ref C_Faulty) "__setattr__" = some (some (.builtin "object.__setattr__")))
    (ga_Faulty : PySem.W.findIn K (.ref C_Faulty) "__getattribute__" = some (some (.builtin "BaseException.__getattribute__")))
    (gg_Faulty : PySem.W.findIn K (.ref C_Faulty) "__getattr__" = some none)
    (ex_Faulty : PySem.W.subIn K (.ref C_Faulty) (.type "BaseException") = some true)
    (ty_Faulty : PySem.W.typeIn K (.ref C_Faulty) = some (.type "type"))
    (no_Faulty : PySem.W.findIn K (.ref C_Faulty) "fault" = some none)
    (i_Faulty : PySem.W.findIn K (.ref C_Faulty) "__init__" = some (some (.ref fI_Faulty)))
    (tI_Faulty : PySem.W.typeIn K (.ref fI_Faulty) = some (.type "function"))
    {oc_Faulty : Value} {od_Faulty : Option Addr} {kV_Faulty dc_Faulty pm_Faulty : Value} {an_Faulty : Option Addr} {cd_Faulty ct_Faulty : Value} {sl_Faulty : Array (Option Value)}
    (la_Faulty : K.lookup fI_Faulty = some ⟨oc_Faulty, od_Faulty, .func (PySem.W.fnOf "__init__" "Faulty.__init__" (defArgs s_Faulty___init__) (defBody s_Faulty___init__) (defScope s_Faulty___init__) .none kV_Faulty dc_Faulty pm_Faulty an_Faulty cd_Faulty ct_Faulty), sl_Faulty⟩)
    (ca_Faulty : PySem.W.codeIn K cd_Faulty "Faulty.__init__" = true)
    (ka_Faulty : PySem.W.keepIn K (.ref fI_Faulty) = true)
    {C_BadEdit fI_BadEdit : Addr}
    (g_BadEdit : PySem.W.nsIn K mainGlobals "BadEdit" = some (some (.ref C_BadEdit)))
    (k_BadEdit : PySem.W.keepIn K (.ref C_BadEdit) = true)
    (q_BadEdit : PySem.W.excInitIn K C_BadEdit [.type "ValueError", .type "Exception", .type "BaseException", .type "object"] "ValueError.__new__" = true)
    (ov_BadEdit : PySem.W.excOver K C_BadEdit [.type "ValueError", .type "Exception", .type "BaseException", .type "object"] = true)
    (hd_BadEdit : PySem.W.hasDictIn K C_BadEdit = true)
    (sa_BadEdit : PySem.W.findIn K (.ref C_BadEdit) "__setattr__" = some (some (.builtin "object.__setattr__")))
    (ga_BadEdit : PySem.W.findIn K (.ref C_BadEdit) "__getattribute__" = some (some (.builtin "BaseException.__getattribute__")))
    (gg_BadEdit : PySem.W.findIn K (.ref C_BadEdit) "__getattr__" = some none)
    (ex_BadEdit : PySem.W.subIn K (.ref C_BadEdit) (.type "BaseException") = some true)
    (ty_BadEdit : PySem.W.typeIn K (.ref C_BadEdit) = some (.type "type"))
    (no_BadEdit : PySem.W.findIn K (.ref C_BadEdit) "index" = some none)
    (i_BadEdit : PySem.W.findIn K (.ref C_BadEdit) "__init__" = some (some (.ref fI_BadEdit)))
    (tI_BadEdit : PySem.W.typeIn K (.ref fI_BadEdit) = some (.type "function"))
    {oc_BadEdit : Value} {od_BadEdit : Option Addr} {kV_BadEdit dc_BadEdit pm_BadEdit : Value} {an_BadEdit : Option Addr} {cd_BadEdit ct_BadEdit : Value} {sl_BadEdit : Array (Option Value)}
    (la_BadEdit : K.lookup fI_BadEdit = some ⟨oc_BadEdit, od_BadEdit, .func (PySem.W.fnOf "__init__" "BadEdit.__init__" (defArgs s_BadEdit___init__) (defBody s_BadEdit___init__) (defScope s_BadEdit___init__) .none kV_BadEdit dc_BadEdit pm_BadEdit an_BadEdit cd_BadEdit ct_BadEdit), sl_BadEdit⟩)
    (ca_BadEdit : PySem.W.codeIn K cd_BadEdit "BadEdit.__init__" = true)
    (ka_BadEdit : PySem.W.keepIn K (.ref fI_BadEdit) = true)
    {C_Rejected fI_Rejected : Addr}
    (g_Rejected : PySem.W.nsIn K mainGlobals "Rejected" = some (some (.ref C_Rejected)))
    (k_Rejected : PySem.W.keepIn K (.ref C_Rejected) = true)
    (q_Rejected : PySem.W.excInitIn K C_Rejected [.type "ValueError", .type "Exception", .type "BaseException", .type "object"] "ValueError.__new__" = true)
    (ov_Rejected : PySem.W.excOver K C_Rejected [.type "ValueError", .type "Exception", .type "BaseException", .type "object"] = true)
    (hd_Rejected : PySem.W.hasDictIn K C_Rejected = true)
    (sa_Rejected : PySem.W.findIn K (.ref C_Rejected) "__setattr__" = some (some (.builtin "object.__setattr__")))
    (ga_Rejected : PySem.W.findIn K (.ref C_Rejected) "__getattribute__" = some (some (.builtin "BaseException.__getattribute__")))
    (gg_Rejected : PySem.W.findIn K (.ref C_Rejected) "__getattr__" = some none)
    (ex_Rejected : PySem.W.subIn K (.ref C_Rejected) (.type "BaseException") = some true)
    (ty_Rejected : PySem.W.typeIn K (.ref C_Rejected) = some (.type "type"))
    (no_Rejected : PySem.W.findIn K (.ref C_Rejected) "index" = some none)
    (i_Rejected : PySem.W.findIn K (.ref C_Rejected) "__init__" = some (some (.ref fI_Rejected)))
    (tI_Rejected : PySem.W.typeIn K (.ref fI_Rejected) = some (.type "function"))
    {oc_Rejected : Value} {od_Rejected : Option Addr} {kV_Rejected dc_Rejected pm_Rejected : Value} {an_Rejected : Option Addr} {cd_Rejected ct_Rejected : Value} {sl_Rejected : Array (Option Value)}
    (la_Rejected : K.lookup fI_Rejected = some ⟨oc_Rejected, od_Rejected, .func (PySem.W.fnOf "__init__" "Rejected.__init__" (defArgs s_Rejected___init__) (defBody s_Rejected___init__) (defScope s_Rejected___init__) .none kV_Rejected dc_Rejected pm_Rejected an_Rejected cd_Rejected ct_Rejected), sl_Rejected⟩)
    (ca_Rejected : PySem.W.codeIn K cd_Rejected "Rejected.__init__" = true)
    (ka_Rejected : PySem.W.keepIn K (.ref fI_Rejected) = true)
    {C_NoPair fI_NoPair : Addr}
    (g_NoPair : PySem.W.nsIn K mainGlobals "NoPair" = some (some (.ref C_NoPair)))
    (k_NoPair : PySem.W.keepIn K (.ref C_NoPair) = true)
    (q_NoPair : PySem.W.excInitIn K C_NoPair [.type "LookupError", .type "Exception", .type "BaseException", .type "object"] "LookupError.__new__" = true)
    (ov_NoPair : PySem.W.excOver K C_NoPair [.type "LookupError", .type "Exception", .type "BaseException", .type "object"] = true)
    (hd_NoPair : PySem.W.hasDictIn K C_NoPair = true)
    (sa_NoPair : PySem.W.findIn K (.ref C_NoPair) "__setattr__" = some (some (.builtin "object.__setattr__")))
    (ga_NoPair : PySem.W.findIn K (.ref C_NoPair) "__getattribute__" = some (some (.builtin "BaseException.__getattribute__")))
    (gg_NoPair : PySem.W.findIn K (.ref C_NoPair) "__getattr__" = some none)
    (ex_NoPair : PySem.W.subIn K (.ref C_NoPair) (.type "BaseException") = some true)
    (ty_NoPair : PySem.W.typeIn K (.ref C_NoPair) = some (.type "type"))
    (no_NoPair : PySem.W.findIn K (.ref C_NoPair) "index" = some none)
    (i_NoPair : PySem.W.findIn K (.ref C_NoPair) "__init__" = some (some (.ref fI_NoPair)))
    (tI_NoPair : PySem.W.typeIn K (.ref fI_NoPair) = some (.type "function"))
    {oc_NoPair : Value} {od_NoPair : Option Addr} {kV_NoPair dc_NoPair pm_NoPair : Value} {an_NoPair : Option Addr} {cd_NoPair ct_NoPair : Value} {sl_NoPair : Array (Option Value)}
    (la_NoPair : K.lookup fI_NoPair = some ⟨oc_NoPair, od_NoPair, .func (PySem.W.fnOf "__init__" "NoPair.__init__" (defArgs s_NoPair___init__) (defBody s_NoPair___init__) (defScope s_NoPair___init__) .none kV_NoPair dc_NoPair pm_NoPair an_NoPair cd_NoPair ct_NoPair), sl_NoPair⟩)
    (ca_NoPair : PySem.W.codeIn K cd_NoPair "NoPair.__init__" = true)
    (ka_NoPair : PySem.W.keepIn K (.ref fI_NoPair) = true)
    {C_NoVersion fI_NoVersion : Addr}
    (g_NoVersion : PySem.W.nsIn K mainGlobals "NoVersion" = some (some (.ref C_NoVersion)))
    (k_NoVersion : PySem.W.keepIn K (.ref C_NoVersion) = true)
    (q_NoVersion : PySem.W.excInitIn K C_NoVersion [.type "LookupError", .type "Exception", .type "BaseException", .type "object"] "LookupError.__new__" = true)
    (ov_NoVersion : PySem.W.excOver K C_NoVersion [.type "LookupError", .type "Exception", .type "BaseException", .type "object"] = true)
    (hd_NoVersion : PySem.W.hasDictIn K C_NoVersion = true)
    (sa_NoVersion : PySem.W.findIn K (.ref C_NoVersion) "__setattr__" = some (some (.builtin "object.__setattr__")))
    (ga_NoVersion : PySem.W.findIn K (.ref C_NoVersion) "__getattribute__" = some (some (.builtin "BaseException.__getattribute__")))
    (gg_NoVersion : PySem.W.findIn K (.ref C_NoVersion) "__getattr__" = some none)
    (ex_NoVersion : PySem.W.subIn K (.ref C_NoVersion) (.type "BaseException") = some true)
    (ty_NoVersion : PySem.W.typeIn K (.ref C_NoVersion) = some (.type "type"))
    (no_NoVersion : PySem.W.findIn K (.ref C_NoVersion) "version" = some none)
    (i_NoVersion : PySem.W.findIn K (.ref C_NoVersion) "__init__" = some (some (.ref fI_NoVersion)))
    (tI_NoVersion : PySem.W.typeIn K (.ref fI_NoVersion) = some (.type "function"))
    {oc_NoVersion : Value} {od_NoVersion : Option Addr} {kV_NoVersion dc_NoVersion pm_NoVersion : Value} {an_NoVersion : Option Addr} {cd_NoVersion ct_NoVersion : Value} {sl_NoVersion : Array (Option Value)}
    (la_NoVersion : K.lookup fI_NoVersion = some ⟨oc_NoVersion, od_NoVersion, .func (PySem.W.fnOf "__init__" "NoVersion.__init__" (defArgs s_NoVersion___init__) (defBody s_NoVersion___init__) (defScope s_NoVersion___init__) .none kV_NoVersion dc_NoVersion pm_NoVersion an_NoVersion cd_NoVersion ct_NoVersion), sl_NoVersion⟩)
    (ca_NoVersion : PySem.W.codeIn K cd_NoVersion "NoVersion.__init__" = true)
    (ka_NoVersion : PySem.W.keepIn K (.ref fI_NoVersion) = true)
    {C_Bench : Addr}
    (g_Bench : PySem.W.nsIn K mainGlobals "Bench" = some (some (.ref C_Bench)))
    {C_RightBench : Addr}
    (g_RightBench : PySem.W.nsIn K mainGlobals "RightBench" = some (some (.ref C_RightBench)))
    (hx : ([C_BadText, C_BadScheme, C_BadRule, C_BadWord, C_BadLength, C_NotRight, C_NotLeft, C_Faulty, C_Busy, C_TooManyEdits, C_NothingToUndo, C_NothingToRedo, C_BadEdits, C_BadEdit, C_Rejected, C_TooFar, C_TooGreat, C_NoPair, C_NoVersion, C_PairError].all fun D => L3.deX (PySem.W.findIn K (.ref D) "__getattribute__") (some (some (.builtin "BaseException.__getattribute__"))) && (L3.deX (PySem.W.findIn K (.ref D) "__getattr__") (some none) && (L3.deX (PySem.W.subIn K (.ref D) (.type "BaseException")) (some true) && (PySem.W.hasDictIn K D && (L3.deX (PySem.W.findIn K (.ref D) "__class__") (some (some (.builtin "object.__class__"))) && L3.deX (PySem.W.mroIn K D (.type "object")) (some true)))))) = true)
    (hsn : PySem.W.specialIn K (.builtin "object.__class__") "__get__" = some (some (.builtin "getset_descriptor.__get__")))
    (hst : PySem.W.takesIn K (.builtin "object.__class__") = some true)
    (hk : ([C_BadText, C_BadScheme, C_BadRule, C_BadWord, C_BadLength, C_NotRight, C_NotLeft, C_Faulty, C_Busy, C_TooManyEdits, C_NothingToUndo, C_NothingToRedo, C_BadEdits, C_BadEdit, C_Rejected, C_TooFar, C_TooGreat, C_NoPair, C_NoVersion, C_PairError].zipIdx.all fun a => [C_BadText, C_BadScheme, C_BadRule, C_BadWord, C_BadLength, C_NotRight, C_NotLeft, C_Faulty, C_Busy, C_TooManyEdits, C_NothingToUndo, C_NothingToRedo, C_BadEdits, C_BadEdit, C_Rejected, C_TooFar, C_TooGreat, C_NoPair, C_NoVersion, C_PairError].zipIdx.all fun b => decide (17 ≤ b.2) || L3.deX (PySem.W.kitOne K (.ref a.1) (.ref b.1)) (some (decide (a.2 = b.2)))) = true)
    (hk2 : ([C_BadText, C_BadScheme, C_BadRule, C_BadWord, C_BadLength, C_NotRight, C_NotLeft, C_Faulty, C_Busy, C_TooManyEdits, C_NothingToUndo, C_NothingToRedo, C_BadEdits, C_BadEdit, C_Rejected, C_TooFar, C_TooGreat, C_NoPair, C_NoVersion, C_PairError].zipIdx.all fun a => L3.deX (PySem.W.kitOne K (.ref a.1) (.type "LookupError")) (some (decide (a.2 = 17 ∨ a.2 = 18))) && (L3.deX (PySem.W.kitOne K (.ref a.1) (.type "ValueError")) (some (!decide (a.2 = 17 ∨ a.2 = 18))) && [C_BadText, C_BadScheme, C_BadRule, C_BadWord, C_BadLength, C_NotRight, C_NotLeft, C_Faulty, C_Busy, C_TooManyEdits, C_NothingToUndo, C_NothingToRedo, C_BadEdits, C_BadEdit, C_Rejected, C_TooFar, C_TooGreat, C_NoPair, C_NoVersion, C_PairError].zipIdx.all fun b => (decide (b.2 ≠ 19) || L3.deX (PySem.W.kitOne K (.ref a.1) (.ref b.1)) (some (!decide (a.2 = 17 ∨ a.2 = 18)))) && (decide (¬ ((a.2 = 17 ∧ b.2 = 18) ∨ (a.2 = 18 ∧ b.2 = 17))) || L3.deX (PySem.W.kitOne K (.ref a.1) (.ref b.1)) (some false)))) = true)
    (hr_Bench : PySem.W.readsIn K C_Bench (.type "type") = true)
    (hm_Bench : (match PySem.W.findCls K (.ref C_Bench) (.type "type") "MOST_EDITS" with | some (.val (.int j _)) => decide (j = 60) | _ => false) = true)
    (hr_RightBench : PySem.W.readsIn K C_RightBench (.type "type") = true)
    (hm_RightBench : (match PySem.W.findCls K (.ref C_RightBench) (.type "type") "MOST_EDITS" with | some (.val (.int j _)) => decide (j = 60) | _ => false) = true)
    (z_abs : PySem.W.nsIn K mainGlobals "abs" = some none)
    (z_len : PySem.W.nsIn K mainGlobals "len" = some none)
    (z_int : PySem.W.nsIn K mainGlobals "int" = some none)
    (z_str : PySem.W.nsIn K mainGlobals "str" = some none)
    (z_isinstance : PySem.W.nsIn K mainGlobals "isinstance" = some none)
    (z_range : PySem.W.nsIn K mainGlobals "range" = some none)
    (z_LookupError : PySem.W.nsIn K mainGlobals "LookupError" = some none)
    (z_ValueError : PySem.W.nsIn K mainGlobals "ValueError" = some none)
    (z_repr : PySem.W.nsIn K mainGlobals "repr" = some none)
    : ∃ fd : FuncData, (∀ (s : Shared) (v : Value), BindsTo s fd ⟨[v], []⟩ [("_law_script", v)]) ∧ ∀ base : Heap, K.In base → base.Ns mainGlobals mg → BaseSm base → FnG l.prog w K mg base 7 fa fd ["_law_script"] (spLaw K) := by
  have e := hfa.symm.trans (PySem.W.mg_of X G a8)
  cases e
  have F0 := fun_mk (st := s_l_deck) l0 c0 k0
  have F1 := fun_mk (st := s_l_draw) l1 c1 k1
  have F2 := fun_mk (st := s_l_one) l2 c2 k2
  have F3 := fun_mk (st := s_l_value) l3 c3 k3
  have F4 := fun_mk (st := s_l_kinds) l4 c4 k4
  have F5 := fun_mk (st := s_l_kinds_right) l5 c5 k5
  have F6 := fun_mk (st := s_l_fields_right) l6 c6 k6
  have F7 := fun_mk (st := s_l_bounds) l7 c7 k7
  have F8 := fun_mk (st := s_law) l8 c8 k8
  have b0 := F0.binds (ps := ["_law_script"]) fun _ _ _ _ _ _ us hl => cN1 us hl fun _ => rfl
  have m0 := PySem.W.mg_of X G a0
  have b1 := F1.binds (ps := ["_law_deck_here", "_law_many"]) fun _ _ _ _ _ _ us hl => cN2 us hl fun _ _ => rfl
  have m1 := PySem.W.mg_of X G a1
  have b2 := F2.binds (ps := ["_law_deck_here", "_law_items"]) fun _ _ _ _ _ _ us hl => cN2 us hl fun _ _ => rfl
  have m2 := PySem.W.mg_of X G a2
  have b3 := F3.binds (ps := ["_law_deck_here"]) fun _ _ _ _ _ _ us hl => cN1 us hl fun _ => rfl
  have m3 := PySem.W.mg_of X G a3
  have b4 := F4.binds (ps := ["_law_e"]) fun _ _ _ _ _ _ us hl => cN1 us hl fun _ => rfl
  have m4 := PySem.W.mg_of X G a4
  have b5 := F5.binds (ps := ["_law_a"]) fun _ _ _ _ _ _ us hl => cN1 us hl fun _ => rfl
  have m5 := PySem.W.mg_of X G a5
  have b6 := F6.binds (ps := ["_law_a"]) fun _ _ _ _ _ _ us hl => cN1 us hl fun _ => rfl
  have m6 := PySem.W.mg_of X G a6
  have b7 := F7.binds (ps := []) fun _ _ _ _ _ _ us hl => cN0 us hl rfl
  have m7 := PySem.W.mg_of X G a7
  have mg_MAX_LETTERS := PySem.W.mg_of X G u0_
  have mg_MAX_STATES := PySem.W.mg_of X G u1_
  have mg_MAX_ROWS := PySem.W.mg_of X G u2_
  have mg_MAX_PAIRS := PySem.W.mg_of X G u3_
  have mg_MAX_WINDOW := PySem.W.mg_of X G u4_
  have mg_MAX_LENGTH := PySem.W.mg_of X G u5_
  have mg_MAX_STEPS := PySem.W.mg_of X G u6_
  have mg_MAX_EDITS := PySem.W.mg_of X G u7_
  have mg_BATCH := PySem.W.mg_of X G u8_
  have mn_abs := PySem.W.mg_none_of X G z_abs
  have mn_len := PySem.W.mg_none_of X G z_len
  have mn_int := PySem.W.mg_none_of X G z_int
  have mn_str := PySem.W.mg_none_of X G z_str
  have mn_isinstance := PySem.W.mg_none_of X G z_isinstance
  have mn_range := PySem.W.mg_none_of X G z_range
  have mn_LookupError := PySem.W.mg_none_of X G z_LookupError
  have mn_ValueError := PySem.W.mg_none_of X G z_ValueError
  have mn_repr := PySem.W.mg_none_of X G z_repr
  refine ⟨PySem.W.fnOf "law" "law" (defArgs s_law) (defBody s_law) (defScope s_law) .none kV8 dc8 pm8 an8 cd8 ct8, fun s v => .of_eq rfl, fun base _ _ hsm => ?_⟩
  have BI : BaseInit K mg "PairError" "ValueError.__init__" := .inl ⟨CB, PySem.W.mg_of X G gB, rB, fB, sB⟩
  have BL : BaseInit K mg "LookupError" "LookupError.__init__" := .inr ⟨"LookupError", mn_LookupError, by decide +kernel, by decide +kernel, rfl, by decide +kernel, f_LE⟩
  have M0_Busy : MkP0 K mg "Busy" C_Busy := ⟨[.type "ValueError", .type "Exception", .type "BaseException", .type "object"], "ValueError", "ValueError.__new__", "ValueError.__init__", PySem.F.excBase_ValueError, q_Busy, PySem.W.mg_of X G g_Busy, k_Busy, ex_Busy, ty_Busy⟩
  have M0_TooManyEdits : MkP0 K mg "TooManyEdits" C_TooManyEdits := ⟨[.type "ValueError", .type "Exception", .type "BaseException", .type "object"], "ValueError", "ValueError.__new__", "ValueError.__init__", PySem.F.excBase_ValueError, q_TooManyEdits, PySem.W.mg_of X G g_TooManyEdits, k_TooManyEdits, ex_TooManyEdits, ty_TooManyEdits⟩
  have M0_NothingToUndo : MkP0 K mg "NothingToUndo" C_NothingToUndo := ⟨[.type "ValueError", .type "Exception", .type "BaseException", .type "object"], "ValueError", "ValueError.__new__", "ValueError.__init__", PySem.F.excBase_ValueError, q_NothingToUndo, PySem.W.mg_of X G g_NothingToUndo, k_NothingToUndo, ex_NothingToUndo, ty_NothingToUndo⟩
  have M0_NothingToRedo : MkP0 K mg "NothingToRedo" C_NothingToRedo := ⟨[.type "ValueError", .type "Exception", .type "BaseException", .type "object"], "ValueError", "ValueError.__new__", "ValueError.__init__", PySem.F.excBase_ValueError, q_NothingToRedo, PySem.W.mg_of X G g_NothingToRedo, k_NothingToRedo, ex_NothingToRedo, ty_NothingToRedo⟩
  have M0_BadEdits : MkP0 K mg "BadEdits" C_BadEdits := ⟨[.type "ValueError", .type "Exception", .type "BaseException", .type "object"], "ValueError", "ValueError.__new__", "ValueError.__init__", PySem.F.excBase_ValueError, q_BadEdits, PySem.W.mg_of X G g_BadEdits, k_BadEdits, ex_BadEdits, ty_BadEdits⟩
  have M0_TooFar : MkP0 K mg "TooFar" C_TooFar := ⟨[.type "ValueError", .type "Exception", .type "BaseException", .type "object"], "ValueError", "ValueError.__new__", "ValueError.__init__", PySem.F.excBase_ValueError, q_TooFar, PySem.W.mg_of X G g_TooFar, k_TooFar, ex_TooFar, ty_TooFar⟩
  have M0_TooGreat : MkP0 K mg "TooGreat" C_TooGreat := ⟨[.type "ValueError", .type "Exception", .type "BaseException", .type "object"], "ValueError", "ValueError.__new__", "ValueError.__init__", PySem.F.excBase_ValueError, q_TooGreat, PySem.W.mg_of X G g_TooGreat, k_TooGreat, ex_TooGreat, ty_TooGreat⟩
  have M0_PairError : MkP0 K mg "PairError" C_PairError := ⟨[.type "ValueError", .type "Exception", .type "BaseException", .type "object"], "ValueError", "ValueError.__new__", "ValueError.__init__", PySem.F.excBase_ValueError, q_PairError, PySem.W.mg_of X G g_PairError, k_PairError, ex_PairError, ty_PairError⟩
  have TX_BadText : ExC K mg "BadText" C_BadText [.type "ValueError", .type "Exception", .type "BaseException", .type "object"] "ValueError.__new__" := ⟨PySem.W.mg_of X G g_BadText, k_BadText, q_BadText, ov_BadText, hd_BadText, sa_BadText, ga_BadText, gg_BadText, ex_BadText, ty_BadText⟩
  have FX_BadText := fun_mk (st := s_BadText___init__) la_BadText ca_BadText ka_BadText
  have bX_BadText := FX_BadText.binds (ps := ["self", "line"]) fun _ _ _ _ _ _ us hl => cN2 us hl fun _ _ => rfl
  have MI_BadText : MkI l.prog w K mg base 2 "BadText" C_BadText "line" := ⟨_, _, _, _, fI_BadText, _, 1, Nat.le_refl _, TX_BadText, PySem.F.excBase_ValueError, no_BadText, i_BadText, tI_BadText, bX_BadText, init_ok FX_BadText sc_BadText___init__ rfl rfl rfl rfl PySem.F.excBase_ValueError PySem.F.store_ValueError TX_BadText no_BadText BI⟩
  have TX_BadScheme : ExC K mg "BadScheme" C_BadScheme [.type "ValueError", .type "Exception", .type "BaseException", .type "object"] "ValueError.__new__" := ⟨PySem.W.mg_of X G g_BadScheme, k_BadScheme, q_BadScheme, ov_BadScheme, hd_BadScheme, sa_BadScheme, ga_BadScheme, gg_BadScheme, ex_BadScheme, ty_BadScheme⟩
  have FX_BadScheme := fun_mk (st := s_BadScheme___init__) la_BadScheme ca_BadScheme ka_BadScheme
  have bX_BadScheme := FX_BadScheme.binds (ps := ["self", "error"]) fun _ _ _ _ _ _ us hl => cN2 us hl fun _ _ => rfl
  have MI_BadScheme : MkI l.prog w K mg base 2 "BadScheme" C_BadScheme "error" := ⟨_, _, _, _, fI_BadScheme, _, 1, Nat.le_refl _, TX_BadScheme, PySem.F.excBase_ValueError, no_BadScheme, i_BadScheme, tI_BadScheme, bX_BadScheme, init_ok FX_BadScheme sc_BadScheme___init__ rfl rfl rfl rfl PySem.F.excBase_ValueError PySem.F.store_ValueError TX_BadScheme no_BadScheme BI⟩
  have TX_BadRule : ExC K mg "BadRule" C_BadRule [.type "ValueError", .type "Exception", .type "BaseException", .type "object"] "ValueError.__new__" := ⟨PySem.W.mg_of X G g_BadRule, k_BadRule, q_BadRule, ov_BadRule, hd_BadRule, sa_BadRule, ga_BadRule, gg_BadRule, ex_BadRule, ty_BadRule⟩
  have FX_BadRule := fun_mk (st := s_BadRule___init__) la_BadRule ca_BadRule ka_BadRule
  have bX_BadRule := FX_BadRule.binds (ps := ["self", "error"]) fun _ _ _ _ _ _ us hl => cN2 us hl fun _ _ => rfl
  have MI_BadRule : MkI l.prog w K mg base 2 "BadRule" C_BadRule "error" := ⟨_, _, _, _, fI_BadRule, _, 1, Nat.le_refl _, TX_BadRule, PySem.F.excBase_ValueError, no_BadRule, i_BadRule, tI_BadRule, bX_BadRule, init_ok FX_BadRule sc_BadRule___init__ rfl rfl rfl rfl PySem.F.excBase_ValueError PySem.F.store_ValueError TX_BadRule no_BadRule BI⟩
  have TX_BadWord : ExC K mg "BadWord" C_BadWord [.type "ValueError", .type "Exception", .type "BaseException", .type "object"] "ValueError.__new__" := ⟨PySem.W.mg_of X G g_BadWord, k_BadWord, q_BadWord, ov_BadWord, hd_BadWord, sa_BadWord, ga_BadWord, gg_BadWord, ex_BadWord, ty_BadWord⟩
  have FX_BadWord := fun_mk (st := s_BadWord___init__) la_BadWord ca_BadWord ka_BadWord
  have bX_BadWord := FX_BadWord.binds (ps := ["self", "word"]) fun _ _ _ _ _ _ us hl => cN2 us hl fun _ _ => rfl
  have MI_BadWord : MkI l.prog w K mg base 2 "BadWord" C_BadWord "word" := ⟨_, _, _, _, fI_BadWord, _, 1, Nat.le_refl _, TX_BadWord, PySem.F.excBase_ValueError, no_BadWord, i_BadWord, tI_BadWord, bX_BadWord, init_ok FX_BadWord sc_BadWord___init__ rfl rfl rfl rfl PySem.F.excBase_ValueError PySem.F.store_ValueError TX_BadWord no_BadWord BI⟩
  have TX_BadLength : ExC K mg "BadLength" C_BadLength [.type "ValueError", .type "Exception", .type "BaseException", .type "object"] "ValueError.__new__" := ⟨PySem.W.mg_of X G g_BadLength, k_BadLength, q_BadLength, ov_BadLength, hd_BadLength, sa_BadLength, ga_BadLength, gg_BadLength, ex_BadLength, ty_BadLength⟩
  have FX_BadLength := fun_mk (st := s_BadLength___init__) la_BadLength ca_BadLength ka_BadLength
  have bX_BadLength := FX_BadLength.binds (ps := ["self", "length"]) fun _ _ _ _ _ _ us hl => cN2 us hl fun _ _ => rfl
  have MI_BadLength : MkI l.prog w K mg base 2 "BadLength" C_BadLength "length" := ⟨_, _, _, _, fI_BadLength, _, 1, Nat.le_refl _, TX_BadLength, PySem.F.excBase_ValueError, no_BadLength, i_BadLength, tI_BadLength, bX_BadLength, init_ok FX_BadLength sc_BadLength___init__ rfl rfl rfl rfl PySem.F.excBase_ValueError PySem.F.store_ValueError TX_BadLength no_BadLength BI⟩
  have TX_NotRight : ExC K mg "NotRight" C_NotRight [.type "ValueError", .type "Exception", .type "BaseException", .type "object"] "ValueError.__new__" := ⟨PySem.W.mg_of X G g_NotRight, k_NotRight, q_NotRight, ov_NotRight, hd_NotRight, sa_NotRight, ga_NotRight, gg_NotRight, ex_NotRight, ty_NotRight⟩
  have FX_NotRight := fun_mk (st := s_NotRight___init__) la_NotRight ca_NotRight ka_NotRight
  have bX_NotRight := FX_NotRight.binds (ps := ["self", "which"]) fun _ _ _ _ _ _ us hl => cN2 us hl fun _ _ => rfl
  have MI_NotRight : MkI l.prog w K mg base 2 "NotRight" C_NotRight "which" := ⟨_, _, _, _, fI_NotRight, _, 1, Nat.le_refl _, TX_NotRight, PySem.F.excBase_ValueError, no_NotRight, i_NotRight, tI_NotRight, bX_NotRight, init_ok FX_NotRight sc_NotRight___init__ rfl rfl rfl rfl PySem.F.excBase_ValueError PySem.F.store_ValueError TX_NotRight no_NotRight BI⟩
  have TX_NotLeft : ExC K mg "NotLeft" C_NotLeft [.type "ValueError", .type "Exception", .type "BaseException", .type "object"] "ValueError.__new__" := ⟨PySem.W.mg_of X G g_NotLeft, k_NotLeft, q_NotLeft, ov_NotLeft, hd_NotLeft, sa_NotLeft, ga_NotLeft, gg_NotLeft, ex_NotLeft, ty_NotLeft⟩
  have FX_NotLeft := fun_mk (st := s_NotLeft___init__) la_NotLeft ca_NotLeft ka_NotLeft
  have bX_NotLeft := FX_NotLeft.binds (ps := ["self", "word"]) fun _ _ _ _ _ _ us hl => cN2 us hl fun _ _ => rfl
  have MI_NotLeft : MkI l.prog w K mg base 2 "NotLeft" C_NotLeft "word" := ⟨_, _, _, _, fI_NotLeft, _, 1, Nat.le_refl _, TX_NotLeft, PySem.F.excBase_ValueError, no_NotLeft, i_NotLeft, tI_NotLeft, bX_NotLeft, init_ok FX_NotLeft sc_NotLeft___init__ rfl rfl rfl rfl PySem.F.excBase_ValueError PySem.F.store_ValueError TX_NotLeft no_NotLeft BI⟩
  have TX_Faulty : ExC K mg "Faulty" C_Faulty [.type "ValueError", .type "Exception", .type "BaseException", .type "object"] "ValueError.__new__" := ⟨PySem.W.mg_of X G g_Faulty, k_Faulty, q_Faulty, ov_Faulty, hd_Faulty, sa_Faulty, ga_Faulty, gg_Faulty, ex_Faulty, ty_Faulty⟩
  have FX_Faulty := fun_mk (st := s_Faulty___init__) la_Faulty ca_Faulty ka_Faulty
  have bX_Faulty := FX_Faulty.binds (ps := ["self", "fault"]) fun _ _ _ _ _ _ us hl => cN2 us hl fun _ _ => rfl
  have MI_Faulty : MkI l.prog w K mg base 2 "Faulty" C_Faulty "fault" := ⟨_, _, _, _, fI_Faulty, _, 1, Nat.le_refl _, TX_Faulty, PySem.F.excBase_ValueError, no_Faulty, i_Faulty, tI_Faulty, bX_Faulty, init_ok FX_Faulty sc_Faulty___init__ rfl rfl rfl rfl PySem.F.excBase_ValueError PySem.F.store_ValueError TX_Faulty no_Faulty BI⟩
  have TX_BadEdit : ExC K mg "BadEdit" C_BadEdit [.type "ValueError", .type "Exception", .type "BaseException", .type "object"] "ValueError.__new__" := ⟨PySem.W.mg_of X G g_BadEdit, k_BadEdit, q_BadEdit, ov_BadEdit, hd_BadEdit, sa_BadEdit, ga_BadEdit, gg_BadEdit, ex_BadEdit, ty_BadEdit⟩
  have FX_BadEdit := fun_mk (st := s_BadEdit___init__) la_BadEdit ca_BadEdit ka_BadEdit
  have bX_BadEdit := FX_BadEdit.binds (ps := ["self", "index"]) fun _ _ _ _ _ _ us hl => cN2 us hl fun _ _ => rfl
  have MI_BadEdit : MkI l.prog w K mg base 2 "BadEdit" C_BadEdit "index" := ⟨_, _, _, _, fI_BadEdit, _, 1, Nat.le_refl _, TX_BadEdit, PySem.F.excBase_ValueError, no_BadEdit, i_BadEdit, tI_BadEdit, bX_BadEdit, init_ok FX_BadEdit sc_BadEdit___init__ rfl rfl rfl rfl PySem.F.excBase_ValueError PySem.F.store_ValueError TX_BadEdit no_BadEdit BI⟩
  have TX_Rejected : ExC K mg "Rejected" C_Rejected [.type "ValueError", .type "Exception", .type "BaseException", .type "object"] "ValueError.__new__" := ⟨PySem.W.mg_of X G g_Rejected, k_Rejected, q_Rejected, ov_Rejected, hd_Rejected, sa_Rejected, ga_Rejected, gg_Rejected, ex_Rejected, ty_Rejected⟩
  have FX_Rejected := fun_mk (st := s_Rejected___init__) la_Rejected ca_Rejected ka_Rejected
  have bX_Rejected := FX_Rejected.binds (ps := ["self", "index"]) fun _ _ _ _ _ _ us hl => cN2 us hl fun _ _ => rfl
  have MI_Rejected : MkI l.prog w K mg base 2 "Rejected" C_Rejected "index" := ⟨_, _, _, _, fI_Rejected, _, 1, Nat.le_refl _, TX_Rejected, PySem.F.excBase_ValueError, no_Rejected, i_Rejected, tI_Rejected, bX_Rejected, init_ok FX_Rejected sc_Rejected___init__ rfl rfl rfl rfl PySem.F.excBase_ValueError PySem.F.store_ValueError TX_Rejected no_Rejected BI⟩
  have TX_NoPair : ExC K mg "NoPair" C_NoPair [.type "LookupError", .type "Exception", .type "BaseException", .type "object"] "LookupError.__new__" := ⟨PySem.W.mg_of X G g_NoPair, k_NoPair, q_NoPair, ov_NoPair, hd_NoPair, sa_NoPair, ga_NoPair, gg_NoPair, ex_NoPair, ty_NoPair⟩
  have FX_NoPair := fun_mk (st := s_NoPair___init__) la_NoPair ca_NoPair ka_NoPair
  have bX_NoPair := FX_NoPair.binds (ps := ["self", "index"]) fun _ _ _ _ _ _ us hl => cN2 us hl fun _ _ => rfl
  have MI_NoPair : MkI l.prog w K mg base 2 "NoPair" C_NoPair "index" := ⟨_, _, _, _, fI_NoPair, _, 1, Nat.le_refl _, TX_NoPair, PySem.F.excBase_LookupError, no_NoPair, i_NoPair, tI_NoPair, bX_NoPair, init_ok FX_NoPair sc_NoPair___init__ rfl rfl rfl rfl PySem.F.excBase_LookupError PySem.F.store_LookupError TX_NoPair no_NoPair BL⟩
  have TX_NoVersion : ExC K mg "NoVersion" C_NoVersion [.type "LookupError", .type "Exception", .type "BaseException", .type "object"] "LookupError.__new__" := ⟨PySem.W.mg_of X G g_NoVersion, k_NoVersion, q_NoVersion, ov_NoVersion, hd_NoVersion, sa_NoVersion, ga_NoVersion, gg_NoVersion, ex_NoVersion, ty_NoVersion⟩
  have FX_NoVersion := fun_mk (st := s_NoVersion___init__) la_NoVersion ca_NoVersion ka_NoVersion
  have bX_NoVersion := FX_NoVersion.binds (ps := ["self", "version"]) fun _ _ _ _ _ _ us hl => cN2 us hl fun _ _ => rfl
  have MI_NoVersion : MkI l.prog w K mg base 2 "NoVersion" C_NoVersion "version" := ⟨_, _, _, _, fI_NoVersion, _, 1, Nat.le_refl _, TX_NoVersion, PySem.F.excBase_LookupError, no_NoVersion, i_NoVersion, tI_NoVersion, bX_NoVersion, init_ok FX_NoVersion sc_NoVersion___init__ rfl rfl rfl rfl PySem.F.excBase_LookupError PySem.F.store_LookupError TX_NoVersion no_NoVersion BL⟩
  have D1 : ∀ (d c : Addr) (h : d ≠ c), DefK l.prog w K mg base 1 (deckA d c h) "_law_draw" semDraw := fun d c h => ⟨_, _, _, m1, k1, b1, ok_draw F1 mn_len mn_int⟩
  have D2 : ∀ (d c : Addr) (h : d ≠ c), DefK l.prog w K mg base 2 (deckA d c h) "_law_one" semOne := fun d c h => ⟨_, _, _, m2, k2, b2, ok_one F2 ((D1 d c h).mono (Nat.le_of_ble_eq_true rfl)) mn_len⟩
  have D3 : ∀ (d c : Addr) (h : d ≠ c), DefK l.prog w K mg base 3 (deckA d c h) "_law_value" semVa := fun d c h => ⟨_, _, _, m3, k3, b3, ok_va F3 ((D1 d c h).mono (Nat.le_of_ble_eq_true rfl)) ((D2 d c h).mono (Nat.le_of_ble_eq_true rfl)) mn_str⟩
  have KD : KdOk K mg (caL [C_BadText, C_BadScheme, C_BadRule, C_BadWord, C_BadLength, C_NotRight, C_NotLeft, C_Faulty, C_Busy, C_TooManyEdits, C_NothingToUndo, C_NothingToRedo, C_BadEdits, C_BadEdit, C_Rejected, C_TooFar, C_TooGreat, C_NoPair, C_NoVersion, C_PairError]) := kdok_of rfl (fun i x h => by
 match i, h with
 | 0, h => cases h; exact PySem.W.mg_of X G g_BadText
 | 1, h => cases h; exact PySem.W.mg_of X G g_BadScheme
 | 2, h => cases h; exact PySem.W.mg_of X G g_BadRule
 | 3, h => cases h; exact PySem.W.mg_of X G g_BadWord
 | 4, h => cases h; exact PySem.W.mg_of X G g_BadLength
 | 5, h => cases h; exact PySem.W.mg_of X G g_NotRight
 | 6, h => cases h; exact PySem.W.mg_of X G g_NotLeft
 | 7, h => cases h; exact PySem.W.mg_of X G g_Faulty
 | 8, h => cases h; exact PySem.W.mg_of X G g_Busy
 | 9, h => cases h; exact PySem.W.mg_of X G g_TooManyEdits
 | 10, h => cases h; exact PySem.W.mg_of X G g_NothingToUndo
 | 11, h => cases h; exact PySem.W.mg_of X G g_NothingToRedo
 | 12, h => cases h; exact PySem.W.mg_of X G g_BadEdits
 | 13, h => cases h; exact PySem.W.mg_of X G g_BadEdit
 | 14, h => cases h; exact PySem.W.mg_of X G g_Rejected
 | 15, h => cases h; exact PySem.W.mg_of X G g_TooFar
 | 16, h => cases h; exact PySem.W.mg_of X G g_TooGreat
 | _ + 17, h => cases h) hx hsn hst hk
  have KT : KdT K mg (caL [C_BadText, C_BadScheme, C_BadRule, C_BadWord, C_BadLength, C_NotRight, C_NotLeft, C_Faulty, C_Busy, C_TooManyEdits, C_NothingToUndo, C_NothingToRedo, C_BadEdits, C_BadEdit, C_Rejected, C_TooFar, C_TooGreat, C_NoPair, C_NoVersion, C_PairError]) := kdt_of rfl ⟨PySem.W.mg_of X G g_PairError, PySem.W.mg_of X G g_NoPair, PySem.W.mg_of X G g_NoVersion⟩ hk2
  have MK : ∀ kk, 2 ≤ kk → MkOk l.prog w K mg base kk (caL [C_BadText, C_BadScheme, C_BadRule, C_BadWord, C_BadLength, C_NotRight, C_NotLeft, C_Faulty, C_Busy, C_TooManyEdits, C_NothingToUndo, C_NothingToRedo, C_BadEdits, C_BadEdit, C_Rejected, C_TooFar, C_TooGreat, C_NoPair, C_NoVersion, C_PairError]) := fun kk hkk => mkok_of (MI_BadText.mono hkk) (MI_BadScheme.mono hkk) (MI_BadRule.mono hkk) (MI_BadWord.mono hkk) (MI_BadLength.mono hkk) (MI_NotRight.mono hkk) (MI_NotLeft.mono hkk) (MI_Faulty.mono hkk) (MI_BadEdit.mono hkk) (MI_Rejected.mono hkk) (MI_NoPair.mono hkk) (MI_NoVersion.mono hkk) M0_Busy M0_TooManyEdits M0_NothingToUndo M0_NothingToRedo M0_BadEdits M0_TooFar M0_TooGreat M0_PairError
  obtain ⟨tkB, fmB⟩ : ∃ t, PySem.W.findCls K (.ref C_Bench) (.type "type") "MOST_EDITS" = some (.val (.int 60 t)) := clsI_of hm_Bench
  obtain ⟨tkR, fmR⟩ : ∃ t, PySem.W.findCls K (.ref C_RightBench) (.type "type") "MOST_EDITS" = some (.val (.int 60 t)) := clsI_of hm_RightBench
  have BN : BnOk K mg C_Bench C_RightBench := ⟨⟨_, mg_MAX_LETTERS⟩, ⟨_, mg_MAX_STATES⟩, ⟨_, mg_MAX_ROWS⟩, ⟨_, mg_MAX_PAIRS⟩, ⟨_, mg_MAX_WINDOW⟩, ⟨_, mg_MAX_LENGTH⟩, ⟨_, mg_MAX_STEPS⟩, ⟨_, mg_MAX_EDITS⟩, ⟨_, mg_BATCH⟩, ⟨PySem.W.mg_of X G g_Bench, hr_Bench, _, fmB⟩, ⟨PySem.W.mg_of X G g_RightBench, hr_RightBench, _, fmR⟩⟩
  have X1 : ∀ (d c : Addr) (h : d ≠ c), DefK l.prog w K mg base 5 (hpA K (exA K (deckA d c h))) "_law_kinds" (semKs hpL (caL [C_BadText, C_BadScheme, C_BadRule, C_BadWord, C_BadLength, C_NotRight, C_NotLeft, C_Faulty, C_Busy, C_TooManyEdits, C_NothingToUndo, C_NothingToRedo, C_BadEdits, C_BadEdit, C_Rejected, C_TooFar, C_TooGreat, C_NoPair, C_NoVersion, C_PairError])) := fun d c h => ⟨_, _, _, m4, k4, b4, ok_ks (k := 4) hpL KD F4 mn_isinstance⟩
  have X2 : ∀ (d c : Addr) (h : d ≠ c), DefK l.prog w K mg base 6 (hpA K (exA K (deckA d c h))) "_law_kinds_right" (semKr hpL) := fun d c h => ⟨_, _, _, m5, k5, b5, ok_kr (k := 5) hpL (MK 5 (by decide)) KD KT (X1 d c h) F5 mn_isinstance mn_range mn_LookupError mn_ValueError⟩
  have X3 : ∀ (d c : Addr) (h : d ≠ c), DefK l.prog w K mg base 6 (hpA K (exA K (deckA d c h))) "_law_fields_right" (semFr hpL) := fun d c h => ⟨_, _, _, m6, k6, b6, ok_fr (k := 5) hpL (MK 5 (by decide)) hsm F6 mn_repr mn_len⟩
  have X4 : ∀ (d c : Addr) (h : d ≠ c), DefK l.prog w K mg base 6 (hpA K (exA K (deckA d c h))) "_law_bounds" semBn := fun d c h => ⟨_, _, _, m7, k7, b7, ok_bn (k := 5) BN F7⟩
  exact ok_law F8 ((ok_deck F0 mn_abs).mono (show 1 ≤ 6 by decide)) m0 b0 k0 (fun d c h => ((D3 d c h).mono (Nat.le_of_ble_eq_true rfl))) (X2) (X3) (X4) (MK 6 (by decide)) hsm mn_range mn_repr
theorem facts {l : PySem.W.OpenLaw} {w : World} {K : PySem.W.Frag} {h : Heap} {mg : Str → Option Value} {fa : Addr} (X : K.In h) (G : h.Ns mainGlobals mg) (hfa : mg "law" = some (.ref fa)) (c : oHk K = vHk) :
    ∃ fd : FuncData, (∀ (s : Shared) (v : Value), BindsTo s fd ⟨[v], []⟩ [("_law_script", v)]) ∧ ∀ base : Heap, K.In base → base.Ns mainGlobals mg → BaseSm base → FnG l.prog w K mg base 7 fa fd ["_law_script"] (spLaw K) := by
  have e0 : ts0 K = _ := congrArg Prod.fst c
  have e1 : ts1 K = _ := congrArg Prod.fst (congrArg Prod.snd c)
  have e2 : ts2 K = _ := congrArg Prod.fst (congrArg Prod.snd (congrArg Prod.snd c))
  have e3 : ts3 K = _ := congrArg Prod.fst (congrArg Prod.snd (congrArg Prod.snd (congrArg Prod.snd c)))
  have e4 : ts4 K = _ := congrArg Prod.fst (congrArg Prod.snd (congrArg Prod.snd (congrArg Prod.snd (congrArg Prod.snd c))))
  have cfn : (fnL.map fun d => He.fnW K d.at_) = fnL.map L3.valX := (congrArg Prod.snd (congrArg Prod.snd (congrArg Prod.snd (congrArg Prod.snd (congrArg Prod.snd c)))))
  clear c
  obtain ⟨k0, oc0, od0, sl0, kV0, dc0, pm0, an0, cd0, ct0, l0, c0⟩ := L3.fnX_ok (L3.defX_at cfn 0 (d := x0) rfl) (L3.allX e0 0 rfl) (L3.allX e0 1 rfl)
  obtain ⟨k1, oc1, od1, sl1, kV1, dc1, pm1, an1, cd1, ct1, l1, c1⟩ := L3.fnX_ok (L3.defX_at cfn 1 (d := x1) rfl) (L3.allX e0 2 rfl) (L3.allX e0 3 rfl)
  obtain ⟨k2, oc2, od2, sl2, kV2, dc2, pm2, an2, cd2, ct2, l2, c2⟩ := L3.fnX_ok (L3.defX_at cfn 2 (d := x2) rfl) (L3.allX e0 4 rfl) (L3.allX e0 5 rfl)
  obtain ⟨k3, oc3, od3, sl3, kV3, dc3, pm3, an3, cd3, ct3, l3, c3⟩ := L3.fnX_ok (L3.defX_at cfn 3 (d := x3) rfl) (L3.allX e0 6 rfl) (L3.allX e0 7 rfl)
  obtain ⟨k4, oc4, od4, sl4, kV4, dc4, pm4, an4, cd4, ct4, l4, c4⟩ := L3.fnX_ok (L3.defX_at cfn 4 (d := x4) rfl) (L3.allX e0 8 rfl) (L3.allX e0 9 rfl)
  obtain ⟨k5, oc5, od5, sl5, kV5, dc5, pm5, an5, cd5, ct5, l5, c5⟩ := L3.fnX_ok (L3.defX_at cfn 5 (d := x5) rfl) (L3.allX e0 10 rfl) (L3.allX e0 11 rfl)
  obtain ⟨k6, oc6, od6, sl6, kV6, dc6, pm6, an6, cd6, ct6, l6, c6⟩ := L3.fnX_ok (L3.defX_at cfn 6 (d := x6) rfl) (L3.allX e0 12 rfl) (L3.allX e0 13 rfl)
  obtain ⟨k7, oc7, od7, sl7, kV7, dc7, pm7, an7, cd7, ct7, l7, c7⟩ := L3.fnX_ok (L3.defX_at cfn 7 (d := x7) rfl) (L3.allX e0 14 rfl) (L3.allX e0 15 rfl)
  obtain ⟨k8, oc8, od8, sl8, kV8, dc8, pm8, an8, cd8, ct8, l8, c8⟩ := L3.fnX_ok (L3.defX_at cfn 8 (d := x8) rfl) (L3.allX e0 16 rfl) (L3.allX e0 17 rfl)
  obtain ⟨tk0, u0_⟩ := L3.intX_ok (L3.allX e0 18 rfl)
  obtain ⟨tk1, u1_⟩ := L3.intX_ok (L3.allX e0 19 rfl)
  obtain ⟨tk2, u2_⟩ := L3.intX_ok (L3.allX e0 20 rfl)
  obtain ⟨tk3, u3_⟩ := L3.intX_ok (L3.allX e0 21 rfl)
  obtain ⟨tk4, u4_⟩ := L3.intX_ok (L3.allX e0 22 rfl)
  obtain ⟨tk5, u5_⟩ := L3.intX_ok (L3.allX e0 23 rfl)
  obtain ⟨tk6, u6_⟩ := L3.intX_ok (L3.allX e0 24 rfl)
  obtain ⟨tk7, u7_⟩ := L3.intX_ok (L3.allX e0 25 rfl)
  obtain ⟨tk8, u8_⟩ := L3.intX_ok (L3.allX e0 26 rfl)
  obtain ⟨ka_BadText, oc_BadText, od_BadText, sl_BadText, kV_BadText, dc_BadText, pm_BadText, an_BadText, cd_BadText, ct_BadText, la_BadText, ca_BadText⟩ := L3.fnX_ok (L3.defX_at cfn 9 (d := x9) rfl) (L3.allX e0 27 rfl) (L3.allX e0 28 rfl)
  obtain ⟨ka_BadScheme, oc_BadScheme, od_BadScheme, sl_BadScheme, kV_BadScheme, dc_BadScheme, pm_BadScheme, an_BadScheme, cd_BadScheme, ct_BadScheme, la_BadScheme, ca_BadScheme⟩ := L3.fnX_ok (L3.defX_at cfn 10 (d := x10) rfl) (L3.allX e0 29 rfl) (L3.allX e0 30 rfl)
  obtain ⟨ka_BadRule, oc_BadRule, od_BadRule, sl_BadRule, kV_BadRule, dc_BadRule, pm_BadRule, an_BadRule, cd_BadRule, ct_BadRule, la_BadRule, ca_BadRule⟩ := L3.fnX_ok (L3.defX_at cfn 11 (d := x11) rfl) (L3.allX e0 31 rfl) (L3.allX e0 32 rfl)
  obtain ⟨ka_BadWord, oc_BadWord, od_BadWord, sl_BadWord, kV_BadWord, dc_BadWord, pm_BadWord, an_BadWord, cd_BadWord, ct_BadWord, la_BadWord, ca_BadWord⟩ := L3.fnX_ok (L3.defX_at cfn 12 (d := x12) rfl) (L3.allX e0 33 rfl) (L3.allX e0 34 rfl)
  obtain ⟨ka_BadLength, oc_BadLength, od_BadLength, sl_BadLength, kV_BadLength, dc_BadLength, pm_BadLength, an_BadLength, cd_BadLength, ct_BadLength, la_BadLength, ca_BadLength⟩ := L3.fnX_ok (L3.defX_at cfn 13 (d := x13) rfl) (L3.allX e0 35 rfl) (L3.allX e0 36 rfl)
  obtain ⟨ka_NotRight, oc_NotRight, od_NotRight, sl_NotRight, kV_NotRight, dc_NotRight, pm_NotRight, an_NotRight, cd_NotRight, ct_NotRight, la_NotRight, ca_NotRight⟩ := L3.fnX_ok (L3.defX_at cfn 14 (d := x14) rfl) (L3.allX e0 37 rfl) (L3.allX e0 38 rfl)
  obtain ⟨ka_NotLeft, oc_NotLeft, od_NotLeft, sl_NotLeft, kV_NotLeft, dc_NotLeft, pm_NotLeft, an_NotLeft, cd_NotLeft, ct_NotLeft, la_NotLeft, ca_NotLeft⟩ := L3.fnX_ok (L3.defX_at cfn 15 (d := x15) rfl) (L3.allX e0 39 rfl) (L3.allX e0 40 rfl)
  obtain ⟨ka_Faulty, oc_Faulty, od_Faulty, sl_Faulty, kV_Faulty, dc_Faulty, pm_Faulty, an_Faulty, cd_Faulty, ct_Faulty, la_Faulty, ca_Faulty⟩ := L3.fnX_ok (L3.defX_at cfn 16 (d := x16) rfl) (L3.allX e0 41 rfl) (L3.allX e0 42 rfl)
  obtain ⟨ka_BadEdit, oc_BadEdit, od_BadEdit, sl_BadEdit, kV_BadEdit, dc_BadEdit, pm_BadEdit, an_BadEdit, cd_BadEdit, ct_BadEdit, la_BadEdit, ca_BadEdit⟩ := L3.fnX_ok (L3.defX_at cfn 17 (d := x17) rfl) (L3.allX e0 43 rfl) (L3.allX e0 44 rfl)
  obtain ⟨ka_Rejected, oc_Rejected, od_Rejected, sl_Rejected, kV_Rejected, dc_Rejected, pm_Rejected, an_Rejected, cd_Rejected, ct_Rejected, la_Rejected, ca_Rejected⟩ := L3.fnX_ok (L3.defX_at cfn 18 (d := x18) rfl) (L3.allX e0 45 rfl) (L3.allX e0 46 rfl)
  obtain ⟨ka_NoPair, oc_NoPair, od_NoPair, sl_NoPair, kV_NoPair, dc_NoPair, pm_NoPair, an_NoPair, cd_NoPair, ct_NoPair, la_NoPair, ca_NoPair⟩ := L3.fnX_ok (L3.defX_at cfn 19 (d := x19) rfl) (L3.allX e0 47 rfl) (L3.allX e0 48 rfl)
  obtain ⟨ka_NoVersion, oc_NoVersion, od_NoVersion, sl_NoVersion, kV_NoVersion, dc_NoVersion, pm_NoVersion, an_NoVersion, cd_NoVersion, ct_NoVersion, la_NoVersion, ca_NoVersion⟩ := L3.fnX_ok (L3.defX_at cfn 20 (d := x20) rfl) (L3.allX e0 49 rfl) (L3.allX e0 50 rfl)
  exact all_mk X G hfa (L3.deX_ok (L3.allX e0 51 rfl)) l0 c0 k0 (L3.deX_ok (L3.allX e0 52 rfl)) l1 c1 k1 (L3.deX_ok (L3.allX e0 53 rfl)) l2 c2 k2 (L3.deX_ok (L3.allX e0 54 rfl)) l3 c3 k3 (L3.deX_ok (L3.allX e0 55 rfl)) l4 c4 k4 (L3.deX_ok (L3.allX e0 56 rfl)) l5 c5 k5 (L3.deX_ok (L3.allX e0 57 rfl)) l6 c6 k6 (L3.deX_ok (L3.allX e0 58 rfl)) l7 c7 k7 (L3.deX_ok (L3.allX e0 59 rfl)) l8 c8 k8 u0_ u1_ u2_ u3_ u4_ u5_ u6_ u7_ u8_ (L3.deX_ok (L3.allX e0 60 rfl)) (L3.allX e0 61 rfl) (L3.clsX_ok (L3.allX e0 62 rfl)) (L3.deX_ok (L3.allX e0 63 rfl)) (L3.clsX_ok (L3.allX e0 64 rfl)) (L3.deX_ok (L3.allX e0 65 rfl)) (L3.allX e0 66 rfl) (L3.allX e0 67 rfl) (L3.deX_ok (L3.allX e0 68 rfl)) (L3.deX_ok (L3.allX e0 69 rfl)) (L3.deX_ok (L3.allX e1 0 rfl)) (L3.allX e1 1 rfl) (L3.allX e1 2 rfl) (L3.deX_ok (L3.allX e1 3 rfl)) (L3.deX_ok (L3.allX e1 4 rfl)) (L3.deX_ok (L3.allX e1 5 rfl)) (L3.allX e1 6 rfl) (L3.allX e1 7 rfl) (L3.deX_ok (L3.allX e1 8 rfl)) (L3.deX_ok (L3.allX e1 9 rfl)) (L3.deX_ok (L3.allX e1 10 rfl)) (L3.allX e1 11 rfl) (L3.allX e1 12 rfl) (L3.deX_ok (L3.allX e1 13 rfl)) (L3.deX_ok (L3.allX e1 14 rfl)) (L3.deX_ok (L3.allX e1 15 rfl)) (L3.allX e1 16 rfl) (L3.allX e1 17 rfl) (L3.deX_ok (L3.allX e1 18 rfl)) (L3.deX_ok (L3.allX e1 19 rfl)) (L3.deX_ok (L3.allX e1 20 rfl)) (L3.allX e1 21 rfl) (L3.allX e1 22 rfl) (L3.deX_ok (L3.allX e1 23 rfl)) (L3.deX_ok (L3.allX e1 24 rfl)) (L3.deX_ok (L3.allX e1 25 rfl)) (L3.allX e1 26 rfl) (L3.allX e1 27 rfl) (L3.deX_ok (L3.allX e1 28 rfl)) (L3.deX_ok (L3.allX e1 29 rfl)) (L3.deX_ok (L3.allX e1 30 rfl)) (L3.allX e1 31 rfl) (L3.allX e1 32 rfl) (L3.deX_ok (L3.allX e1 33 rfl)) (L3.deX_ok (L3.allX e1 34 rfl)) (L3.deX_ok (L3.allX e1 35 rfl)) (L3.allX e1 36 rfl) (L3.allX e1 37 rfl) (L3.allX e1 38 rfl) (L3.allX e1 39 rfl) (L3.deX_ok (L3.allX e1 40 rfl)) (L3.deX_ok (L3.allX e1 41 rfl)) (L3.deX_ok (L3.allX e1 42 rfl)) (L3.deX_ok (L3.allX e1 43 rfl)) (L3.deX_ok (L3.allX e1 44 rfl)) (L3.deX_ok (L3.allX e1 45 rfl)) (L3.deX_ok (L3.allX e1 46 rfl)) (L3.deX_ok (L3.allX e1 47 rfl)) la_BadText ca_BadText ka_BadText (L3.deX_ok (L3.allX e1 48 rfl)) (L3.allX e1 49 rfl) (L3.allX e1 50 rfl) (L3.allX e1 51 rfl) (L3.allX e1 52 rfl) (L3.deX_ok (L3.allX e1 53 rfl)) (L3.deX_ok (L3.allX e1 54 rfl)) (L3.deX_ok (L3.allX e1 55 rfl)) (L3.deX_ok (L3.allX e1 56 rfl)) (L3.deX_ok (L3.allX e1 57 rfl)) (L3.deX_ok (L3.allX e1 58 rfl)) (L3.deX_ok (L3.allX e1 59 rfl)) (L3.deX_ok (L3.allX e1 60 rfl)) la_BadScheme ca_BadScheme ka_BadScheme (L3.deX_ok (L3.allX e1 61 rfl)) (L3.allX e1 62 rfl) (L3.allX e1 63 rfl) (L3.allX e1 64 rfl) (L3.allX e1 65 rfl) (L3.deX_ok (L3.allX e1 66 rfl)) (L3.deX_ok (L3.allX e1 67 rfl)) (L3.deX_ok (L3.allX e1 68 rfl)) (L3.deX_ok (L3.allX e1 69 rfl)) (L3.deX_ok (L3.allX e2 0 rfl)) (L3.deX_ok (L3.allX e2 1 rfl)) (L3.deX_ok (L3.allX e2 2 rfl)) (L3.deX_ok (L3.allX e2 3 rfl)) la_BadRule ca_BadRule ka_BadRule (L3.deX_ok (L3.allX e2 4 rfl)) (L3.allX e2 5 rfl) (L3.allX e2 6 rfl) (L3.allX e2 7 rfl) (L3.allX e2 8 rfl) (L3.deX_ok (L3.allX e2 9 rfl)) (L3.deX_ok (L3.allX e2 10 rfl)) (L3.deX_ok (L3.allX e2 11 rfl)) (L3.deX_ok (L3.allX e2 12 rfl)) (L3.deX_ok (L3.allX e2 13 rfl)) (L3.deX_ok (L3.allX e2 14 rfl)) (L3.deX_ok (L3.allX e2 15 rfl)) (L3.deX_ok (L3.allX e2 16 rfl)) la_BadWord ca_BadWord ka_BadWord (L3.deX_ok (L3.allX e2 17 rfl)) (L3.allX e2 18 rfl) (L3.allX e2 19 rfl) (L3.allX e2 20 rfl) (L3.allX e2 21 rfl) (L3.deX_ok (L3.allX e2 22 rfl)) (L3.deX_ok (L3.allX e2 23 rfl)) (L3.deX_ok (L3.allX e2 24 rfl)) (L3.deX_ok (L3.allX e2 25 rfl)) (L3.deX_ok (L3.allX e2 26 rfl)) (L3.deX_ok (L3.allX e2 27 rfl)) (L3.deX_ok (L3.allX e2 28 rfl)) (L3.deX_ok (L3.allX e2 29 rfl)) la_BadLength ca_BadLength ka_BadLength (L3.deX_ok (L3.allX e2 30 rfl)) (L3.allX e2 31 rfl) (L3.allX e2 32 rfl) (L3.allX e2 33 rfl) (L3.allX e2 34 rfl) (L3.deX_ok (L3.allX e2 35 rfl)) (L3.deX_ok (L3.allX e2 36 rfl)) (L3.deX_ok (L3.allX e2 37 rfl)) (L3.deX_ok (L3.allX e2 38 rfl)) (L3.deX_ok (L3.allX e2 39 rfl)) (L3.deX_ok (L3.allX e2 40 rfl)) (L3.deX_ok (L3.allX e2 41 rfl)) (L3.deX_ok (L3.allX e2 42 rfl)) la_NotRight ca_NotRight ka_NotRight (L3.deX_ok (L3.allX e2 43 rfl)) (L3.allX e2 44 rfl) (L3.allX e2 45 rfl) (L3.allX e2 46 rfl) (L3.allX e2 47 rfl) (L3.deX_ok (L3.allX e2 48 rfl)) (L3.deX_ok (L3.allX e2 49 rfl)) (L3.deX_ok (L3.allX e2 50 rfl)) (L3.deX_ok (L3.allX e2 51 rfl)) (L3.deX_ok (L3.allX e2 52 rfl)) (L3.deX_ok (L3.allX e2 53 rfl)) (L3.deX_ok (L3.allX e2 54 rfl)) (L3.deX_ok (L3.allX e2 55 rfl)) la_NotLeft ca_NotLeft ka_NotLeft (L3.deX_ok (L3.allX e2 56 rfl)) (L3.allX e2 57 rfl) (L3.allX e2 58 rfl) (L3.allX e2 59 rfl) (L3.allX e2 60 rfl) (L3.deX_ok (L3.allX e2 61 rfl)) (L3.deX_ok (L3.allX e2 62 rfl)) (L3.deX_ok (L3.allX e2 63 rfl)) (L3.deX_ok (L3.allX e2 64 rfl)) (L3.deX_ok (L3.allX e2 65 rfl)) (L3.deX_ok (L3.allX e2 66 rfl)) (L3.deX_ok (L3.allX e2 67 rfl)) (L3.deX_ok (L3.allX e2 68 rfl)) la_Faulty ca_Faulty ka_Faulty (L3.deX_ok (L3.allX e2 69 rfl)) (L3.allX e3 0 rfl) (L3.allX e3 1 rfl) (L3.allX e3 2 rfl) (L3.allX e3 3 rfl) (L3.deX_ok (L3.allX e3 4 rfl)) (L3.deX_ok (L3.allX e3 5 rfl)) (L3.deX_ok (L3.allX e3 6 rfl)) (L3.deX_ok (L3.allX e3 7 rfl)) (L3.deX_ok (L3.allX e3 8 rfl)) (L3.deX_ok (L3.allX e3 9 rfl)) (L3.deX_ok (L3.allX e3 10 rfl)) (L3.deX_ok (L3.allX e3 11 rfl)) la_BadEdit ca_BadEdit ka_BadEdit (L3.deX_ok (L3.allX e3 12 rfl)) (L3.allX e3 13 rfl) (L3.allX e3 14 rfl) (L3.allX e3 15 rfl) (L3.allX e3 16 rfl) (L3.deX_ok (L3.allX e3 17 rfl)) (L3.deX_ok (L3.allX e3 18 rfl)) (L3.deX_ok (L3.allX e3 19 rfl)) (L3.deX_ok (L3.allX e3 20 rfl)) (L3.deX_ok (L3.allX e3 21 rfl)) (L3.deX_ok (L3.allX e3 22 rfl)) (L3.deX_ok (L3.allX e3 23 rfl)) (L3.deX_ok (L3.allX e3 24 rfl)) la_Rejected ca_Rejected ka_Rejected (L3.deX_ok (L3.allX e3 25 rfl)) (L3.allX e3 26 rfl) (L3.allX e3 27 rfl) (L3.allX e3 28 rfl) (L3.allX e3 29 rfl) (L3.deX_ok (L3.allX e3 30 rfl)) (L3.deX_ok (L3.allX e3 31 rfl)) (L3.deX_ok (L3.allX e3 32 rfl)) (L3.deX_ok (L3.allX e3 33 rfl)) (L3.deX_ok (L3.allX e3 34 rfl)) (L3.deX_ok (L3.allX e3 35 rfl)) (L3.deX_ok (L3.allX e3 36 rfl)) (L3.deX_ok (L3.allX e3 37 rfl)) la_NoPair ca_NoPair ka_NoPair (L3.deX_ok (L3.allX e3 38 rfl)) (L3.allX e3 39 rfl) (L3.allX e3 40 rfl) (L3.allX e3 41 rfl) (L3.allX e3 42 rfl) (L3.deX_ok (L3.allX e3 43 rfl)) (L3.deX_ok (L3.allX e3 44 rfl)) (L3.deX_ok (L3.allX e3 45 rfl)) (L3.deX_ok (L3.allX e3 46 rfl)) (L3.deX_ok (L3.allX e3 47 rfl)) (L3.deX_ok (L3.allX e3 48 rfl)) (L3.deX_ok (L3.allX e3 49 rfl)) (L3.deX_ok (L3.allX e3 50 rfl)) la_NoVersion ca_NoVersion ka_NoVersion (L3.deX_ok (L3.allX e3 51 rfl)) (L3.deX_ok (L3.allX e3 52 rfl)) (L3.allX e3 53 rfl) (L3.deX_ok (L3.allX e3 54 rfl)) (L3.deX_ok (L3.allX e3 55 rfl)) (L3.allX e3 56 rfl) (L3.allX e3 57 rfl) (L3.allX e3 58 rfl) (L3.allX e3 59 rfl) (L3.allX e3 60 rfl) (L3.allX e3 61 rfl) (L3.deX_ok (L3.allX e3 62 rfl)) (L3.deX_ok (L3.allX e3 63 rfl)) (L3.deX_ok (L3.allX e3 64 rfl)) (L3.deX_ok (L3.allX e3 65 rfl)) (L3.deX_ok (L3.allX e3 66 rfl)) (L3.deX_ok (L3.allX e3 67 rfl)) (L3.deX_ok (L3.allX e3 68 rfl)) (L3.deX_ok (L3.allX e3 69 rfl)) (L3.deX_ok (L3.allX e4 0 rfl))
end My
open PySem PySem.W PyProof.Rows in
set_option maxRecDepth 100000 in
set_option maxHeartbeats 0 in
theorem PySem.Challenge.cw_pairedaway_k00_errors_made_by_hand_holds : PySem.Challenge.rw_pairedaway_k00_errors_made_by_hand.Holds := by
  exact My.hold_of (L3.walkG2E (l := PySem.Challenge.rw_pairedaway_k00_errors_made_by_hand) (n := 63) (k := 7) (x := "_law_script") (by decide +kernel) rfl (by decide) rfl ⟨rfl, by decide, by decide⟩ (fun w mg fa h ⟨K, KX, c⟩ G hmg => ⟨K, KX, My.facts KX G hmg c⟩))
#print axioms PySem.Challenge.cw_pairedaway_k00_errors_made_by_hand_holds
