import PyProof.Rows.All
import Wide.All
import OpenK.AllK
import Wide.FinOn
import KE.KStateDown
import HandS.Base
import HandS.Call
import HandS.Exc
import HandS.ExcIs
import HandS.ExcField
import HandS.Property
import HandS.Words
import HandS.Head0
import HandS.Head1
import HandS.Head2
import HandS.HeadEnd
import HandS.HeadHook1
import HandS.HeadHook2
import HandS.HeadHook3
import HandS.HeadHook4
import HandS.NestedK
import PySem.Challenge.RW_unsureminds_k82_all_or_none
import HandS.ForMost
import HandS.ForExc
import HandS.TupAny
import HandS.Deep
import HandS.Lambda
import HandS.EndTab
import HandS.HeadWalk
import HandS.Wide
import HandS.NoneIn
import HandS.Flow
import HandS.IsInst
import KE.DataMinMax
import HandS.Defaults
import KE.KExcSuper
import KE.KSuper
import HandS.TryMany
set_option Elab.async false
set_option linter.all false
set_option maxRecDepth 100000
set_option maxHeartbeats 0
namespace KK
open PySem PySem.Spec PyProof.Rows L2
/-! ### the program's defs -/
abbrev PG : Program := PySem.Challenge.pw_unsureminds_k82_all_or_none
def top (i : Nat) : Stmt := PG.main.body.getD i (.Pass ⟨0, 0, 0, 0⟩)
def inC (i j : Nat) : Stmt := match top i with
  | .ClassDef _ _ _ body _ _ _ _ _ _ _ => body.getD j (.Pass ⟨0, 0, 0, 0⟩)
  | _ => .Pass ⟨0, 0, 0, 0⟩
def mkD (x : Str) (st : Stmt) : He.DefD := ⟨(x, none), x, x, defArgs st, defBody st, defScope st, [], []⟩
def mkM (c m q : Str) (st : Stmt) : He.DefD := ⟨(c, some m), m, q, defArgs st, defBody st, defScope st, [], []⟩
def dCheckAct := mkD "check_act" (top 23)
def dCheckCho := mkD "check_choice" (top 24)
def dBookInit := mkM "Book" "__init__" "Book.__init__" (inC 25 0)
def dBookWith := mkM "Book" "with_seen" "Book.with_seen" (inC 25 2)
def dBookTold := mkM "Book" "told" "Book.told" (inC 25 5)
def dHouseInit := mkM "House" "__init__" "House.__init__" (inC 28 0)
def dHouseEnt := mkM "House" "entries" "House.entries" (inC 28 3)
def dHouseBook := mkM "House" "book" "House.book" (inC 28 4)
def dHouseSee := mkM "House" "see" "House.see" (inC 28 5)
def dHouseLate := mkM "House" "see_late" "House.see_late" (inC 28 6)
def dHouseAll := mkM "House" "see_all" "House.see_all" (inC 28 7)
def dHouseBack := mkM "House" "take_back" "House.take_back" (inC 28 8)
def dHouseUndo := mkM "House" "undo" "House.undo" (inC 28 9)
def dHouseBin := mkM "House" "_book_in" "House._book_in" (inC 28 12)
def dHouseEntry := mkM "House" "_entry" "House._entry" (inC 28 13)
def dHousePlace := mkM "House" "_place" "House._place" (inC 28 14)
def dHouseKeep := mkM "House" "_keep" "House._keep" (inC 28 15)
def dNumbers := mkD "_law_numbers" (top 30)
def dSame := mkD "_law_same" (top 31)
def dTold := mkD "_law_told" (top 32)
def dSeen := mkD "_law_seen" (top 33)
def dGood := mkD "_law_good" (top 34)
def dRefusal := mkD "_law_refusal" (top 35)
def dPlace := mkD "_law_place" (top 36)
def dAfter := mkD "_law_after" (top 37)
def dStep := mkD "_law_step" (top 38)
def dDo := mkD "_law_do" (top 39)
def dNames := mkD "_law_names" (top 40)
def dChoice := mkD "_law_choice" (top 41)
def dBad := mkD "_law_bad" (top 42)
def dNth := mkD "_law_nth" (top 43)
def dList := mkD "_law_list" (top 44)
def dStands := mkD "_law_stands" (top 45)
def dStd := mkM "House" "standing" "House.standing" (inC 28 2)
def dLaw := mkD "law" (top 46)
def fn : List He.DefD := [dCheckAct, dCheckAct, dCheckCho, dBookInit, dBookWith, dBookTold, dHouseInit, dHouseEnt, dHouseBook, dHouseSee, dHouseLate, dHouseAll, dHouseBack, dHouseUndo, dHouseBin, dHouseEntry, dHousePlace, dHouseKeep,
  dNumbers, dSame, dTold, dSeen, dGood, dRefusal, dPlace, dAfter, dStep, dDo, dNames, dChoice, dBad, dNth, dList, dStands, dLaw]
def fa : List He.Fa := [.glo "check_act", .glo "check_act", .glo "check_choice", .glo "Book", .glo "House", .glo "_law_numbers", .glo "_law_same", .glo "_law_told", .glo "_law_seen", .glo "_law_good", .glo "_law_refusal", .glo "_law_place", .glo "_law_after", .glo "_law_step",
  .glo "_law_do", .glo "_law_names", .glo "_law_choice", .glo "_law_bad", .glo "_law_nth", .glo "_law_list", .glo "_law_stands", .glo "law", .glo "UnsureError",
  .free "len", .free "range", .free "max", .free "min", .free "int", .free "tuple", .free "list", .free "isinstance", .free "bool", .free "str", .free "ValueError",
  .int "MOST_STATES" 4, .int "MOST_ACTS" 5, .int "MOST_SEEN" 8, .int "MOST_WORTH" 99, .int "MOST_ENTRIES" 24,
  .cls "Book", .cls "House", .mkr "Book", .mkr "House", .meth "Book" "with_seen", .meth "Book" "told", .meth "House" "entries", .meth "House" "book", .meth "House" "see", .meth "House" "see_late", .meth "House" "see_all", .meth "House" "take_back",
  .meth "House" "undo", .meth "House" "_book_in", .meth "House" "_entry", .meth "House" "_place", .meth "House" "_keep",
  .noat "Book" "states", .noat "Book" "acts", .noat "Book" "seen", .noat "House" "_plain", .noat "House" "names", .noat "House" "_rows", .noat "House" "_past", .noat "House" "_last_key"]
def tabE : List (Str × Str) := [("TooMany", "limit"), ("BadAct", "place"), ("BadChance", "place"), ("BadCapacity", "event"), ("BadPrices", "place"), ("BadShare", "share"), ("BadChoice", "place"), ("BadKind", "word"), ("BadCells", "place"), ("NothingSeen", "event"), ("BadQuote", "place"), ("NoEntry", "key"), ("NoMind", "name"), ("BadText", "line")]
/-! ### the head: what is looked at -/
abbrev FvW : Type := Option (Str × Str × Arguments × FuncBody × Scope × Addr × Addr)
def fvW (K : PySem.W.Frag) (f : Addr) : FvW := match K.lookup f with
  | some ⟨_, _, .func d, _⟩ => some (d.name, d.qualname, d.params, d.body, d.scope, d.globals, d.builtins)
  | _ => none
def fvD (name qual : Str) (st : Stmt) : FvW := some (name, qual, defArgs st, .stmts (defBody st), defScope st, mainGlobals, builtinsNs)
def noV : Value → Bool
  | .none => true
  | _ => false
theorem noV_ok {v : Value} (h : noV v = true) : v = .none := by cases v <;> first | rfl | cases h
def plainF (K : PySem.W.Frag) (f : Addr) (q : Str) : Bool := PySem.W.keepIn K (.ref f) && (match K.lookup f with
  | some ⟨_, _, .func d, _⟩ => PySem.W.codeIn K d.code q && (noV d.defaults && d.closure.isEmpty)
  | _ => false)
theorem fund_of {K : PySem.W.Frag} {f : Addr} {name qual : Str} {st : Stmt} (e : fvW K f = fvD name qual st) (c : plainF K f qual = true) : ∃ fd, FunD K name qual (defArgs st) (defBody st) (defScope st) [] [] f fd := by
  obtain ⟨kp, c⟩ := Bool.and_eq_true_iff.mp c
  unfold fvW at e
  cases q : K.lookup f with
  | none => rw [q] at c; cases c
  | some o =>
    obtain ⟨oc, od, dt, osl⟩ := o
    rw [q] at c e
    cases dt with
    | func fd =>
      obtain ⟨n1, n2, n3, n4, n5, n6, n7, n8, n9, n10, n11, n12, n13, n14, n15⟩ := fd
      have e : (some (n1, n2, n3, n4, n5, n6, n15) : FvW) = some (name, qual, defArgs st, .stmts (defBody st), defScope st, mainGlobals, builtinsNs) := e
      simp only [Option.some.injEq, Prod.mk.injEq] at e
      obtain ⟨h1, h2, h3, h4, h5, h6, h8⟩ := e
      subst h1 h2 h3 h4 h5 h6 h8
      obtain ⟨c1, c2⟩ := Bool.and_eq_true_iff.mp (show (PySem.W.codeIn K n13 n2 && (noV n8 && n7.isEmpty)) = true from c)
      obtain ⟨c2, c3⟩ := Bool.and_eq_true_iff.mp c2
      have c2 := noV_ok c2
      have c3 := List.isEmpty_iff.mp c3
      subst c2 c3
      exact ⟨_, ⟨oc, od, .none, n9, n10, n11, n12, n13, n14, osl, rfl, q, c1, .inl ⟨rfl, rfl⟩, .inl rfl⟩, kp⟩
    | _ => cases c
/-! standing -/
def spA (K : PySem.W.Frag) : Addr := match PySem.W.findIn K (.ref (He.ga K "House")) "standing" with
  | some (some (.ref p)) => p
  | _ => 0
def sgA (K : PySem.W.Frag) : Addr := match PySem.W.recIn K (spA K) "property" with
  | some (.ref g :: _) => g
  | _ => 0
def recB (r : Option (List Value)) (g : Addr) : Bool := match r with
  | some (.ref a :: _) => decide (a = g)
  | _ => false
theorem recB_ok {r : Option (List Value)} {g : Addr} (h : recB r g = true) : ∃ rest, r = some (.ref g :: rest) := by
  unfold recB at h
  split at h
  · rename_i a rest
    have e : a = g := of_decide_eq_true h
    subst e
    exact ⟨rest, rfl⟩
  · cases h
def standB (K : PySem.W.Frag) : Bool := He.eqO (PySem.W.findIn K (.ref (He.ga K "House")) "standing") (some (some (.ref (spA K)))) && (He.eqO (PySem.W.specialIn K (.ref (spA K)) "__get__") (some (some (.builtin "property.__get__"))) && (decide (PySem.W.takesIn K (.ref (spA K)) = some true) && (recB (PySem.W.recIn K (spA K) "property") (sgA K) && plainF K (sgA K) "House.standing")))
/-! the exceptions -/
def clsB (K : PySem.W.Frag) (C : Addr) : Bool := match K.lookup C with
  | some ⟨.type "type", _, .cls cd, sl⟩ => (match cd.mro, sl.toList with
    | .ref D :: bm, [_, _, _, _, some (.builtin n), _] => decide (D = C) && (decide (n = "ValueError.__new__") && (!cd.hasDel && (cd.hasDict && (PySem.HandSPX.refsVE bm && He.eqO (PySem.W.alongIn K "__init__" bm) (some (some (.builtin "ValueError.__init__")))))))
    | _, _ => false)
  | _ => false
theorem clsB_ok {K : PySem.W.Frag} {C : Addr} (h : clsB K C = true) : ∃ nm q N bs bm sn sub ab col dd k0 k1 k2 k3 k5, K.lookup C = some (PySem.excClassObj nm q C N bs bm true sn sub ab col dd k0 k1 k2 k3 k5 "ValueError.__new__") ∧ PySem.HandSPX.refsVE bm = true ∧ PySem.W.alongIn K "__init__" bm = some (some (.builtin "ValueError.__init__")) := by
  unfold clsB at h
  split at h
  · rename_i dd cd sl ho
    split at h
    · rename_i D bm k0 k1 k2 k3 n k5 hm hs
      obtain ⟨h1, h⟩ := Bool.and_eq_true_iff.mp h
      obtain ⟨h2, h⟩ := Bool.and_eq_true_iff.mp h
      obtain ⟨h3, h⟩ := Bool.and_eq_true_iff.mp h
      obtain ⟨h4, h⟩ := Bool.and_eq_true_iff.mp h
      obtain ⟨h5, h6⟩ := Bool.and_eq_true_iff.mp h
      have g1 : D = C := of_decide_eq_true h1
      have g2 : n = "ValueError.__new__" := of_decide_eq_true h2
      have g3 : cd.hasDel = false := by simpa using h3
      clear h1 h2 h3 h
      obtain ⟨nm, bs, mro, ns, qn, hd, sn, sub, ab, col, del⟩ := cd
      have g4 : hd = true := h4
      have g5 : del = false := g3
      have g6 : mro = .ref D :: bm := hm
      clear hm h4 g3
      subst g1 g2 g4 g5 g6
      have hsl : sl = #[k0, k1, k2, k3, some (.builtin "ValueError.__new__"), k5] := by
        obtain ⟨l⟩ := sl
        simp only at hs
        rw [hs]
      subst hsl
      exact ⟨_, _, _, _, _, _, _, _, _, _, _, _, _, _, _, ho, h5, He.eqO_ok h6⟩
    · cases h
  · cases h
def fileB (K : PySem.W.Frag) (cda : Addr) : Bool := match K.lookup cda with
  | some ⟨_, _, .fields vs, _⟩ => (match (vs[2]? : Option Value) with
    | some (Value.str file _) => ((PG.main.file : Str) == file)
    | _ => false)
  | _ => false
def cellB (K : PySem.W.Frag) (cc C : Addr) : Bool := match K.lookup cc with
  | some ⟨_, _, .cell (some (.ref D)), _⟩ => decide (D = C)
  | _ => false
def cloB (K : PySem.W.Frag) (C : Addr) (q : Str) : Value → List (Str × Addr) → Bool
  | .ref cda, [(n, cc)] => decide (n = "__class__") && (PySem.W.codeIn K (.ref cda) q && (fileB K cda && cellB K cc C))
  | _, _ => false
theorem fileB_ok {K : PySem.W.Frag} {cda : Addr} (h : fileB K cda = true) : ∃ (ccl : Value) (cdd : Option Addr) (vs : Array Value) (ccs : Array (Option Value)) (file : Str) (tf : Tok), K.lookup cda = some ⟨ccl, cdd, .fields vs, ccs⟩ ∧ vs[2]? = some (.str file tf) ∧ ((PG.main.file : Str) == file) = true := by
  unfold fileB at h
  split at h
  · rename_i ccl cdd vs ccs lc
    split at h
    · rename_i file tf hv
      exact ⟨ccl, cdd, vs, ccs, file, tf, lc, hv, h⟩
    · cases h
  · cases h
theorem cellB_ok {K : PySem.W.Frag} {cc C : Addr} (h : cellB K cc C = true) : ∃ (cl : Value) (cld : Option Addr) (csl : Array (Option Value)), K.lookup cc = some ⟨cl, cld, .cell (some (.ref C)), csl⟩ := by
  unfold cellB at h
  split at h
  · rename_i cl cld D csl lcc
    have d4 : D = C := of_decide_eq_true h
    subst d4
    exact ⟨cl, cld, csl, lcc⟩
  · cases h
theorem cloB_ok {K : PySem.W.Frag} {C : Addr} {q : Str} {v : Value} {cl : List (Str × Addr)} (h : cloB K C q v cl = true) : ∃ cda cc, v = .ref cda ∧ cl = [(("__class__" : Str), cc)] ∧ PySem.W.codeIn K (.ref cda) q = true ∧ fileB K cda = true ∧ cellB K cc C = true := by
  unfold cloB at h
  split at h
  · rename_i cda n cc
    obtain ⟨b1, h⟩ := Bool.and_eq_true_iff.mp h
    obtain ⟨b2, h⟩ := Bool.and_eq_true_iff.mp h
    obtain ⟨b3, b4⟩ := Bool.and_eq_true_iff.mp h
    have d3 : n = "__class__" := of_decide_eq_true b1
    subst d3
    exact ⟨cda, cc, rfl, rfl, b2, b3, b4⟩
  · cases h
def initB (K : PySem.W.Frag) (fI C : Addr) (q : Str) : Bool := match K.lookup fI with
  | some ⟨_, _, .func d, _⟩ => noV d.defaults && (noV d.kwdefaults && cloB K C q d.code d.closure)
  | _ => false
def xiA (K : PySem.W.Frag) (x : Str) : Addr := He.ma K (He.ga K x) "__init__"
def xtB (K : PySem.W.Frag) (x f q : Str) : Bool :=
  clsB K (He.ga K x) && (He.eqO (PySem.W.findIn K (.ref (He.ga K x)) "__setattr__") (some (some (.builtin "object.__setattr__"))) && (He.eqO (PySem.W.findIn K (.ref (He.ga K x)) "__init__") (some (some (.ref (xiA K x)))) && (decide (PySem.W.typeIn K (.ref (xiA K x)) = some (.type "function")) &&
    (PySem.W.keepIn K (.ref (He.ga K x)) && (decide (PySem.W.subIn K (.ref (He.ga K x)) (.type "ValueError") = some true) && (decide (PySem.W.typeIn K (.ref (He.ga K x)) = some (.type "type")) && initB K (xiA K x) (He.ga K x) q))))))
def excCB (K : PySem.W.Frag) (C : Addr) : Bool := xfB K C && (He.eqO (PySem.W.findIn K (.ref C) "__class__") (some (some (.builtin "object.__class__"))) && (decide (PySem.W.mroIn K C (.type "object") = some true) &&
  (He.eqO (PySem.W.specialIn K (.builtin "object.__class__") "__get__") (some (some (.builtin "getset_descriptor.__get__"))) && decide (PySem.W.takesIn K (.builtin "object.__class__") = some true))))
theorem excCB_ok {K : PySem.W.Frag} {C : Addr} (h : excCB K C = true) : ExcC K C ∧ XfC K C := by
  obtain ⟨h1, h⟩ := Bool.and_eq_true_iff.mp h
  obtain ⟨h2, h⟩ := Bool.and_eq_true_iff.mp h
  obtain ⟨h3, h⟩ := Bool.and_eq_true_iff.mp h
  obtain ⟨h4, h5⟩ := Bool.and_eq_true_iff.mp h
  have X := xfB_ok h1
  exact ⟨⟨X.ga, X.gg, X.exC, X.hdC, He.eqO_ok h2, He.eqO_ok h4, of_decide_eq_true h5, of_decide_eq_true h3⟩, X⟩
def tellB (K : PySem.W.Frag) (t : Str × Str) : Bool := excCB K (He.ga K t.1) && (He.eqO (PySem.W.findIn K (.ref (He.ga K t.1)) t.2) (some none) && (decide (PySem.W.kitOne K (.ref (He.ga K t.1)) (.type "ValueError") = some true) &&
  (decide (PySem.W.exmOne K (.ref (He.ga K t.1)) (.ref (He.ga K "UnsureError")) = some true) && tabE.all fun u => decide (PySem.W.kitOne K (.ref (He.ga K t.1)) (.ref (He.ga K u.1)) = some (u.1 == t.1)))))
def xNames : List (Str × Str × Str × Nat) := [("TooMany", "limit", "TooMany.__init__", 3), ("BadAct", "place", "BadAct.__init__", 4), ("BadChoice", "place", "BadChoice.__init__", 9), ("NoEntry", "key", "NoEntry.__init__", 14), ("NoMind", "name", "NoMind.__init__", 15)]
def moreB (K : PySem.W.Frag) : Bool := standB K && (He.tupB K "WORDS" [.str ">=", .str ">", .str "!>="] && (He.eqO (PySem.W.nsIn K cStatics "thirdparty.any") (some none) && (tabE.all (tellB K) && xNames.all fun t => xtB K t.1 t.2.1 t.2.2.1)))
def faX : List He.Fa := fa ++ tabE.map (fun t => He.Fa.glo t.1) ++ [.glo "WORDS", .glo "_law_told", .free "super"]
def fvs (K : PySem.W.Frag) : List FvW := fvW K (sgA K) :: xNames.map fun t => fvW K (xiA K t.1)
def fvDs : List FvW := fvD "standing" "House.standing" (inC 28 2) :: xNames.map fun t => fvD "__init__" t.2.2.1 (inC t.2.2.2 0)
/-! the Hook -/
def asY (g : Addr → Option Obj) (n : Nat) : List Addr := He.asD g n ++ [cStatics]
abbrev tfs : List He.Defn := [dDo.at_]
abbrev AlY : Type := He.AlD × List FvW × Bool
def obsK (g : Addr → Option Obj) (K : PySem.W.Frag) : AlY := (He.obsD faX fn K, fvs K, moreB K && He.tabsB g tfs K)
def obsY (n : Nat) (g : Addr → Option Obj) : AlY := obsK g (He.frT g (asY g n))
def valY : AlY := (He.valD fn, fvDs, true)
structure SaysY (h : Heap) (K : PySem.W.Frag) : Prop where
  d : He.SaysD faX fn K
  v : fvs K = fvDs
  more : moreB K = true
  hd : ∀ p ∈ tfs, PySem.W.codeHdIn K (He.cT K p).1 (He.cT K p).2 = true
  out : ∀ p ∈ tfs, K.lookup (He.cT K p).2 = none
  empty : ∀ p ∈ tfs, h.get? (He.cT K p).2 = some { cls := .none, data := .fields #[] }
theorem saysY_of {n : Nat} {h : Heap} (e : obsY n h.get? = valY) : SaysY h (He.frT h.get? (asY h.get? n)) := by
  unfold obsY at e
  generalize hK : He.frT h.get? (asY h.get? n) = K at e
  have e1 : He.obsD faX fn K = He.valD fn := congrArg (fun z : AlY => z.1) e
  have e2 : fvs K = fvDs := congrArg (fun z : AlY => z.2.1) e
  have e3 : (moreB K && He.tabsB h.get? tfs K) = true := congrArg (fun z : AlY => z.2.2) e
  obtain ⟨m1, m2⟩ := Bool.and_eq_true_iff.mp e3
  have key : ∀ p ∈ tfs, PySem.W.codeHdIn K (He.cT K p).1 (He.cT K p).2 = true ∧ ∃ o, h.get? (He.cT K p).2 = some o ∧ He.emptyTab o = true := fun p hp => by
    obtain ⟨k1, k2⟩ := Bool.and_eq_true_iff.mp (List.all_eq_true.mp m2 p hp)
    refine ⟨k1, ?_⟩
    cases q : h.get? (He.cT K p).2 with
    | none => rw [q] at k2; cases k2
    | some o => rw [q] at k2; exact ⟨o, rfl, k2⟩
  refine ⟨e1, e2, m1, fun p hp => (key p hp).1, fun p hp => ?_, fun p hp => ?_⟩
  · obtain ⟨_, o, q, z⟩ := key p hp
    have := He.frT_none (as := asY h.get? n) q z
    rw [hK] at this
    exact this
  · obtain ⟨_, o, q, z⟩ := key p hp
    rw [q, He.emptyTab_eq z]
def hookY (n : Nat) : PySem.W.Hook where
  α := AlY
  obs := fun s => obsY n s.heap.get?
  val := fun _ => valY
  says := fun _ h => ∃ K : PySem.W.Frag, K.In h ∧ SaysY h K
  of := fun _ _ e => ⟨_, He.frT_in, saysY_of e⟩
  keeps := fun _ _ _ ⟨K, hK, c⟩ k => ⟨K, PySem.W.Frag.In.keeps hK k, ⟨c.d, c.v, c.more, c.hd, c.out, fun p hp => k _ _ (c.empty p hp)⟩⟩
theorem obsY_eq {n : Nat} {g : Addr → Option Obj} {s : Shared} (h : ∀ a, g a = s.heap.get? a) : obsY n g = (hookY n).obs s := by
  have e : g = s.heap.get? := funext h
  rw [e]
  rfl
abbrev RR : PySem.W.OpenRow := PySem.W.OpenLaw.row PySem.Challenge.rw_unsureminds_k82_all_or_none
abbrev hkY : PySem.W.Hook := hookY 5
def obY (s : PySem.W.SharedT) : AlY := obsY 5 (HandSHeadRun.getT s)
theorem obY_eq (s : PySem.W.SharedT) : obY s = hkY.obs s.abs := obsY_eq (HandSHeadRun.getT_eq s)
def looseA : List Str := ["_wall", "__name__", "UnsureError", "TooMany", "BadAct", "BadChance", "BadCapacity", "BadPrices", "BadShare", "BadChoice", "BadKind", "BadCells", "NothingSeen", "BadQuote", "NoEntry", "NoMind", "BadText", "WORDS", "MOST_STATES", "MOST_ACTS", "MOST_SEEN", "MOST_WORTH"]
def looseB : List Str := ["check_act", "check_choice", "Book", "MOST_ENTRIES", "House", "_law_numbers", "_law_same", "_law_told", "_law_seen", "_law_good", "_law_refusal", "_law_place", "_law_after", "_law_step", "_law_do", "_law_names", "_law_choice", "_law_bad", "_law_nth", "_law_list", "_law_stands"]
def loosE : List Str := looseA ++ looseB
theorem runY (w : World) : HandSHeadRun.RunEq RR (PySem.W.view RR.prog [46]) hkY obY 8000 loosE w := by
  intro os
  kernel_rfl
end KK

/-! DL: a logic of data over the hand layer: states are lists of slots (data, own lists, raw values), steps grow the heap. -/
namespace DL
open PySem PySem.Spec PyProof.Rows L2
abbrev St := L2.St
/-! ### the best readings -/
section
variable (X : Cx)
def tE (e : Expr) : TE := fun σ H Q => ∀ (pins : List (Addr × Obj)) (s : Shared), Inv X pins σ H s → wpAny (model X.prog X.w) X.A (eval e X.env) (EP X pins σ Q) X.xe s
def tT (e : Expr) : L2.TT := fun σ H Q => ∀ (pins : List (Addr × Obj)) (s : Shared), Inv X pins σ H s → wpAny (model X.prog X.w) X.A (isTrue e X.env (eval e X.env)) (TP X pins σ Q) X.xe s
def tW (e : Expr) : L2.TT := fun σ H Q => ∀ (whole : Sem Value) (pins : List (Addr × Obj)) (s : Shared), Inv X pins σ H s → wpAny (model X.prog X.w) X.A (isTrue e X.env whole) (TP X pins σ Q) X.xe s
def tA (es : List Expr) : TA := fun σ H Q => ∀ (pos : Pos) (pins : List (Addr × Obj)) (s : Shared), Inv X pins σ H s → wpAny (model X.prog X.w) X.A (spliced (backTo pos (starEach es X.env))) (AP X pins σ Q) X.xe s
def tS (st : Stmt) : TS := fun D σ H => ∀ (pins : List (Addr × Obj)) (s : Shared), Inv X pins σ H s → wpAny (model X.prog X.w) X.A (exec st X.env) (SP X pins D) X.xe s
def tSs (st : List Stmt) : TS := fun D σ H => ∀ (pins : List (Addr × Obj)) (s : Shared), Inv X pins σ H s → wpAny (model X.prog X.w) X.A (execs st X.env) (SP X pins D) X.xe s
def tG (tg : Expr) : TG := fun v σ H Q => ∀ (pins : List (Addr × Obj)) (s : Shared) (u : Value), Inv X pins σ H s → RelV v u → wpAny (model X.prog X.w) X.A (assign tg X.env u) (fun _ s' => ∃ σ' H', Inv X pins σ' H' s' ∧ Q σ' H') X.xe s
end
section
variable {X : Cx} {e : Expr} {es : List Expr} {st : Stmt} {sts : List Stmt} {tg : Expr} {σ : St} {H : Hp}
theorem pe_sem : PE X e (tE X e) := ⟨fun pins s σ H Q I h => h pins s I⟩
theorem pt_sem : PT X e (tT X e) := ⟨fun pins s σ H Q I h => h pins s I⟩
theorem pw_sem : PW X e (tW X e) := ⟨fun wh pins s σ H Q I h => h wh pins s I⟩
theorem pa_sem : PA X es (tA X es) := ⟨fun pos pins s σ H Q I h => h pos pins s I⟩
theorem ps_sem : PS X st (tS X st) := ⟨fun pins s σ H D I h => h pins s I⟩
theorem pss_sem : PSs X sts (tSs X sts) := ⟨fun pins s σ H D I h => h pins s I⟩
theorem pg_sem : PG X tg (tG X tg) := ⟨fun pins s σ H v u Q I r h => h pins s u I r⟩
theorem e_at {t : TE} {Q : VK} (h : PE X e t) (q : t σ H Q) : tE X e σ H Q := fun pins s I => h.run pins s σ H Q I q
theorem t_at {t : L2.TT} {Q : Bool → Hp → Prop} (h : PT X e t) (q : t σ H Q) : tT X e σ H Q := fun pins s I => h.run pins s σ H Q I q
theorem w_at {t : L2.TT} {Q : Bool → Hp → Prop} (h : PW X e t) (q : t σ H Q) : tW X e σ H Q := fun wh pins s I => h.run wh pins s σ H Q I q
theorem a_at {t : TA} {Q : List V → Hp → Prop} (h : PA X es t) (q : t σ H Q) : tA X es σ H Q := fun pos pins s I => h.run pos pins s σ H Q I q
theorem s_at {t : TS} {D : Ends} (h : PS X st t) (q : t D σ H) : tS X st D σ H := fun pins s I => h.run pins s σ H D I q
theorem ss_at {t : TS} {D : Ends} (h : PSs X sts t) (q : t D σ H) : tSs X sts D σ H := fun pins s I => h.run pins s σ H D I q
theorem g_at {t : TG} {v : V} {Q : St → Hp → Prop} (h : PG X tg t) (q : t v σ H Q) : tG X tg v σ H Q := fun pins s u I r => h.run pins s σ H v u Q I r q
end

/-! ### worlds, steps -/
structure Wd where
  B : Hp
  H : Hp
/-- what may be changed, and where what may be changed stood at the start -/
structure Md where
  m : Addr → HO → Prop
  z : Addr → Prop
/-- something but a code table stands there -/
def Nt (H : Hp) (a : Addr) : Prop := ∃ o, H a = some o ∧ ∀ ps, o ≠ .tbl ps
theorem Nt.not {H : Hp} {a : Addr} (h : H a = none) : ¬ Nt H a := fun ⟨o, e, _⟩ => by rw [h] at e; cases e
theorem Nt.lst {H : Hp} {a : Addr} {vs : List V} (h : H a = some (.lst vs)) : Nt H a := ⟨_, h, fun ps z => by cases z⟩
theorem Nt.some {H : Hp} {a : Addr} (h : Nt H a) : H a ≠ none := fun z => by obtain ⟨o, e, _⟩ := h; rw [z] at e; cases e
theorem Nt.upd {H : Hp} {a p : Addr} {o : HO} (ho : ∀ ps, o ≠ .tbl ps) (h : Nt H a) : Nt (upd H p o) a := by
  by_cases hap : a = p
  · subst hap; exact ⟨o, upd_same, ho⟩
  · obtain ⟨u, e, q⟩ := h
    exact ⟨u, by rw [upd_ne hap]; exact e, q⟩
structure Stp (M : Md) (W W' : Wd) : Prop where
  b : Same W.B W'.B
  h : Same W'.B W'.H
  k : ∀ a o, W.H a = some o → ¬ M.m a o → W'.H a = some o
  n : ∀ a, W'.B a ≠ none → W.B a ≠ none ∨ ¬ Nt W.H a
  l : ∀ a, Nt W.H a → Nt W'.H a
  c : ∀ a q, W.H a = some (LamX.CodeO a q) → W'.H a = some (LamX.CodeO a q)
  t : (∀ a ps, W.B a ≠ some (.tbl ps)) → ∀ a ps, W'.B a ≠ some (.tbl ps)
def M0 : Md := ⟨fun _ _ => False, fun _ => False⟩
abbrev Stp0 (W W' : Wd) : Prop := Stp M0 W W'
section
variable {M M' : Md} {W W1 W2 : Wd}
theorem Stp.refl (h : Same W.B W.H) : Stp M W W := ⟨Same.refl _, h, fun _ _ e _ => e, fun _ e => .inl e, fun _ e => e, fun _ _ e => e, id⟩
theorem Stp.same (s : Stp0 W W1) : Same W.H W1.H := fun a o e => s.k a o e id
theorem Stp.non {p : Addr} (s : Stp M W W1) (h : ¬ Nt W1.H p) : ¬ Nt W.H p := fun z => h (s.l p z)
theorem Stp.trans (a : Stp M W W1) (b : Stp M W1 W2) : Stp M W W2 :=
  ⟨a.b.trans b.b, b.h, fun x o e m => b.k x o (a.k x o e m) m, fun x e => (b.n x e).elim (fun z => a.n x z) fun z => .inr (a.non z), fun x e => b.l x (a.l x e), fun x q e => b.c x q (a.c x q e), fun z => b.t (a.t z)⟩
theorem Stp.weak (a : Stp M W W1) (h : ∀ x o, M.m x o → M'.m x o) : Stp M' W W1 := ⟨a.b, a.h, fun x o e m => a.k x o e fun z => m (h x o z), a.n, a.l, a.c, a.t⟩
theorem Stp.up (a : Stp0 W W1) : Stp M W W1 := a.weak fun _ _ z => z.elim
/-- a step whose changes lie in M or in what is new -/
theorem Stp.trans' (a : Stp M W W1) (b : Stp M' W1 W2) (h : ∀ x o, M'.m x o → W.H x = some o → W1.H x = some o → M.m x o) : Stp M W W2 :=
  ⟨a.b.trans b.b, b.h, fun x o e m => b.k x o (a.k x o e m) fun z => m (h x o z e (a.k x o e m)), fun x e => (b.n x e).elim (fun z => a.n x z) fun z => .inr (a.non z), fun x e => b.l x (a.l x e), fun x q e => b.c x q (a.c x q e), fun z => b.t (a.t z)⟩
theorem upd_nt {B : Hp} {p : Addr} {o : HO} (ho : ∀ ps, o ≠ .tbl ps) (z : ∀ a ps, B a ≠ some (.tbl ps)) (a : Addr) (ps) : upd B p o a ≠ some (.tbl ps) := fun e => by
  by_cases hap : a = p
  · subst hap
    rw [upd_same] at e
    exact ho ps (Option.some.inj e)
  · rw [upd_ne hap] at e
    exact z a ps e
/-- a new object, known from now on -/
theorem Stp.new {p : Addr} {o : HO} (h : Same W.B W.H) (hp : W.H p = none) (ho : ∀ ps, o ≠ .tbl ps := by intro ps z; cases z) : Stp0 W ⟨upd W.B p o, upd W.H p o⟩ := by
  have hb : W.B p = none := h.free hp
  refine ⟨fun a u e => ?_, fun a u e => ?_, fun a u e _ => ?_, fun a e => ?_, fun a e => ?_, fun a q e => (by show upd _ _ _ _ = _; rw [upd_ne (ne_of_none e hp)]; exact e), fun z a ps e => upd_nt ho z a ps e⟩
  · show upd _ _ _ _ = _
    rw [upd_ne (ne_of_none e hb)]; exact e
  · by_cases ha : a = p
    · subst ha
      have e' : upd W.B a o a = some u := e
      rw [upd_same] at e'
      show upd W.H a o a = some u
      rw [upd_same]; exact e'
    · have e' : upd W.B p o a = some u := e
      rw [upd_ne ha] at e'
      show upd W.H p o a = some u
      rw [upd_ne ha]; exact h a u e'
  · show upd _ _ _ _ = _
    rw [upd_ne (ne_of_none e hp)]; exact e
  · by_cases ha : a = p
    · subst ha; exact .inr (Nt.not hp)
    · have e' : upd W.B p o a ≠ Option.none := e
      rw [upd_ne ha] at e'
      exact .inl e'
  · exact Nt.upd ho e
/-- a new object, one's own -/
theorem Stp.mine {p : Addr} {o : HO} (h : Same W.B W.H) (hp : W.H p = none) (ho : ∀ ps, o ≠ .tbl ps := by intro ps z; cases z) : Stp0 W ⟨W.B, upd W.H p o⟩ := by
  refine ⟨Same.refl _, fun a u e => ?_, fun a u e _ => ?_, fun a e => .inl e, fun a e => ?_, fun a q e => (by show upd _ _ _ _ = _; rw [upd_ne (ne_of_none e hp)]; exact e), id⟩
  · show upd _ _ _ _ = _
    rw [upd_ne (ne_of_none (h a u e) hp)]; exact h a u e
  · show upd _ _ _ _ = _
    rw [upd_ne (ne_of_none e hp)]; exact e
  · exact Nt.upd ho e
end

/-! ### data -/
theorem seqT {K : PySem.W.Frag} {H H' : Hp} {a : Addr} {xs : List V} (e : Same H H') (h : SqT K H a xs) : SqT K H' a xs := by
  rcases h with (h | ⟨o, h⟩) | h
  · exact .inl (.inl (e _ _ h))
  · exact .inl (.inr ⟨o, e _ _ h⟩)
  · exact .inr h
mutual
theorem Dp.up {K : PySem.W.Frag} {H H' : Hp} (e : Same H H') : ∀ {d : PyData} {v : V}, Dp K H v d → Dp K H' v d
  | .none, _, h => by cases h; exact .non
  | .bool b, _, h => by cases h; exact .bl b
  | .int b, _, h => by cases h; exact .int b
  | .str b, _, h => by cases h; exact .str b
  | .list ds, _, h => by
    cases h with
    | lst hs ha => exact .lst (e.seq hs) (DpAll.up e ha)
  | .tuple ds, _, h => by
    cases h with
    | tup hs ha => exact .tup (seqT e hs) (DpAll.up e ha)
  | .dict _, _, h => by cases h
theorem DpAll.up {K : PySem.W.Frag} {H H' : Hp} (e : Same H H') : ∀ {ds : List PyData} {vs : List V}, DpAll K H vs ds → DpAll K H' vs ds
  | [], _, h => by cases h; exact .nil
  | d :: ds, _, h => by
    cases h with
    | cons h1 h2 => exact .cons (Dp.up e h1) (DpAll.up e h2)
end
section
variable {K : PySem.W.Frag} {H : Hp}
theorem DpAll.len : ∀ {vs : List V} {ds : List PyData}, DpAll K H vs ds → vs.length = ds.length
  | [], [], .nil => rfl
  | _ :: _, _ :: _, .cons _ h => congrArg (· + 1) (DpAll.len h)
theorem DpAll.at : ∀ {vs : List V} {ds : List PyData} {i : Nat} {d : PyData}, DpAll K H vs ds → ds[i]? = some d → ∃ v, vs[i]? = some v ∧ Dp K H v d
  | _ :: _, _ :: _, 0, d, .cons h _, e => by
    have e' := Option.some.inj e
    subst e'
    exact ⟨_, rfl, h⟩
  | _ :: _, _ :: _, i + 1, d, .cons _ h, e => DpAll.at (i := i) h e
  | [], [], i, d, .nil, e => by simp at e
theorem DpAll.at' : ∀ {vs : List V} {ds : List PyData} {i : Nat} {v : V}, DpAll K H vs ds → vs[i]? = some v → ∃ d, ds[i]? = some d ∧ Dp K H v d
  | _ :: _, _ :: _, 0, v, .cons h _, e => by
    have e' := Option.some.inj e
    subst e'
    exact ⟨_, rfl, h⟩
  | _ :: _, _ :: _, i + 1, v, .cons _ h, e => DpAll.at' (i := i) h e
  | [], [], i, v, .nil, e => by simp at e
theorem DpAll.app : ∀ {vs : List V} {ds : List PyData} {us : List V} {es : List PyData}, DpAll K H vs ds → DpAll K H us es → DpAll K H (vs ++ us) (ds ++ es)
  | [], [], _, _, .nil, h => h
  | _ :: _, _ :: _, _, _, .cons h t, q => .cons h (DpAll.app t q)
theorem DpAll.drop : ∀ {vs : List V} {ds : List PyData} (n : Nat), DpAll K H vs ds → DpAll K H (vs.drop n) (ds.drop n)
  | _, _, 0, h => h
  | [], [], _ + 1, .nil => .nil
  | _ :: _, _ :: _, n + 1, .cons _ h => DpAll.drop n h
theorem DpAll.take : ∀ {vs : List V} {ds : List PyData} (n : Nat), DpAll K H vs ds → DpAll K H (vs.take n) (ds.take n)
  | _, _, 0, _ => .nil
  | [], [], _ + 1, .nil => .nil
  | _ :: _, _ :: _, n + 1, .cons h t => .cons h (DpAll.take n t)
theorem DpAll.set : ∀ {vs : List V} {ds : List PyData} (n : Nat) {v : V} {d : PyData}, DpAll K H vs ds → Dp K H v d → DpAll K H (vs.set n v) (ds.set n d)
  | [], [], _, _, _, .nil, _ => .nil
  | _ :: _, _ :: _, 0, _, _, .cons _ t, q => .cons q t
  | _ :: _, _ :: _, n + 1, _, _, .cons h t, q => .cons h (DpAll.set n t q)
theorem DpAll.ints : ∀ (ns : List Int), DpAll K H (ns.map V.int) (ns.map PyData.int)
  | [] => .nil
  | n :: r => .cons (.int n) (DpAll.ints r)
theorem DpAll.of_ints : ∀ {vs : List V} {ns : List Int}, DpAll K H vs (ns.map PyData.int) → vs = ns.map V.int
  | [], [], _ => rfl
  | _ :: _, n :: r, .cons h t => by
    cases h
    rw [DpAll.of_ints t]; rfl
theorem DpAll.of_strs : ∀ {vs : List V} {ns : List Str}, DpAll K H vs (ns.map PyData.str) → vs = ns.map V.str
  | [], [], _ => rfl
  | _ :: _, n :: r, .cons h t => by
    cases h
    rw [DpAll.of_strs t]; rfl
theorem dp_int {v : V} {i : Int} (h : Dp K H v (.int i)) : v = .int i := by cases h; rfl
theorem dp_str {v : V} {i : Str} (h : Dp K H v (.str i)) : v = .str i := by cases h; rfl
theorem dp_bl {v : V} {i : Bool} (h : Dp K H v (.bool i)) : v = .bl i := by cases h; rfl
theorem dp_non {v : V} (h : Dp K H v .none) : v = .non := by cases h; rfl
theorem dp_tup {v : V} {ds : List PyData} (h : Dp K H v (.tuple ds)) : ∃ a xs, v = .ref a ∧ SqT K H a xs ∧ DpAll K H xs ds := by
  cases h with
  | tup hs ha => exact ⟨_, _, rfl, hs, ha⟩
theorem dp_lst {v : V} {ds : List PyData} (h : Dp K H v (.list ds)) : ∃ a xs, v = .ref a ∧ SqL K H a xs ∧ DpAll K H xs ds := by
  cases h with
  | lst hs ha => exact ⟨_, _, rfl, hs, ha⟩
end

/-! ### slots -/
/-- a lasting fact of a value -/
structure Fct where
  P : PySem.W.Frag → Hp → V → Prop
  mono : ∀ {K : PySem.W.Frag} {B B' : Hp} {v : V}, Same B B' → P K B v → P K B' v
/-- what is known of a slot: nothing; a datum; a list of one's own; the same, seen from elsewhere; a value; a lasting fact -/
inductive Sl where
  | un | dat (d : PyData) | own (ds : List PyData) | bor (ds : List PyData) | raw (v : V) | fct (F : Fct)
/-- what may change: a statement of the heap, the addresses that it leans on -/
structure Res where
  P : Hp → Hp → Prop
  fp : Addr → Prop
  mono : ∀ (B H B' H' : Hp), Same B B' → (∀ a o, fp a → H a = some o → H' a = some o) → (∀ a q, H a = some (LamX.CodeO a q) → H' a = some (LamX.CodeO a q)) → (∀ T, LamX.Tabs T H → LamX.Tabs T H') → P B H → P B' H'
def Res.emp : Res := ⟨fun _ _ => True, fun _ => False, fun _ _ _ _ _ _ _ _ _ => True.intro⟩
def VOk (K : PySem.W.Frag) (W0 W : Wd) (v : V) : Sl → Prop
  | .un => True
  | .dat d => Dp K W.B v d
  | .own ds => ∃ p vs, v = .ref p ∧ ¬ Nt W0.H p ∧ W.B p = none ∧ W.H p = some (.lst vs) ∧ DpAll K W.B vs ds
  | .bor ds => ∃ p vs, v = .ref p ∧ ¬ Nt W0.H p ∧ W.B p = none ∧ W.H p = some (.lst vs) ∧ DpAll K W.B vs ds
  | .raw u => v = u
  | .fct F => F.P K W.B v
def SlOk (K : PySem.W.Frag) (W0 W : Wd) (o : Option V) (r : Sl) : Prop := match r with
  | .un => True
  | r => ∃ v, o = some v ∧ VOk K W0 W v r
/-- the i-th slot -/
def at_ (σ : St) (i : Nat) : Option V := (σ[i]?).join
def isOwn : Sl → Bool
  | .own _ => true
  | _ => false
def isMine : Sl → Bool
  | .own _ => true
  | .bor _ => true
  | _ => false
theorem mine_of {r : Sl} (h : isOwn r = true) : isMine r = true := by
  cases r <;> first | rfl | cases h
structure Env (K : PySem.W.Frag) (M : Md) (J : Res) (W0 W : Wd) (σ : St) (ρ : List Sl) : Prop where
  ok : Same W.B W.H
  st : Stp M W0 W
  len : σ.length = ρ.length
  sl : ∀ i r, ρ[i]? = some r → SlOk K W0 W (at_ σ i) r
  ds : ∀ i j p r q, ρ[i]? = some r → ρ[j]? = some q → isOwn r = true → isOwn q = true → at_ σ i = some (.ref p) → at_ σ j = some (.ref p) → i = j
  res : J.P W.B W.H
  sep : ∀ a, J.fp a → W.B a = none ∧ Nt W.H a ∧ (M.z a ∨ ¬ Nt W0.H a)
  nof : ∀ i p r, ρ[i]? = some r → isOwn r = true → at_ σ i = some (.ref p) → ¬ J.fp p
  nob : ∀ (i : Nat) (ds : List PyData), ρ[i]? ≠ some (Sl.bor ds)
  nt : ∀ a ps, W0.B a ≠ some (.tbl ps)
/-- what comes of an expression -/
def RtOk (K : PySem.W.Frag) (J : Res) (W0 W : Wd) (σ : St) (ρ : List Sl) (v : V) (r : Sl) : Prop :=
  VOk K W0 W v r ∧ (isMine r = true → ∀ p, v = .ref p → ¬ J.fp p) ∧ (isOwn r = true → ∀ p, v = .ref p → ∀ i q, ρ[i]? = some q → isOwn q = true → at_ σ i ≠ some (.ref p))
section
variable {K : PySem.W.Frag} {M : Md} {J : Res} {W0 W W1 : Wd} {σ : St} {ρ : List Sl} {v : V} {r : Sl}
theorem VOk.up (s : Stp0 W W1) (h : VOk K W0 W v r) : VOk K W0 W1 v r := by
  cases r with
  | un => exact h
  | dat d => exact Dp.up s.b h
  | own ds =>
    obtain ⟨p, vs, e, h0, h1, h2, h3⟩ := h
    refine ⟨p, vs, e, h0, ?_, s.same _ _ h2, DpAll.up s.b h3⟩
    cases q : W1.B p with
    | none => rfl
    | some o =>
      rcases s.n p (by rw [q]; exact fun z => nomatch z) with z | z
      · exact absurd h1 z
      · exact absurd (Nt.lst h2) z
  | bor ds =>
    obtain ⟨p, vs, e, h0, h1, h2, h3⟩ := h
    refine ⟨p, vs, e, h0, ?_, s.same _ _ h2, DpAll.up s.b h3⟩
    cases q : W1.B p with
    | none => rfl
    | some o =>
      rcases s.n p (by rw [q]; exact fun z => nomatch z) with z | z
      · exact absurd h1 z
      · exact absurd (Nt.lst h2) z
  | raw u => exact h
  | fct F => exact F.mono s.b h
theorem SlOk.up (s : Stp0 W W1) {o : Option V} (h : SlOk K W0 W o r) : SlOk K W0 W1 o r := by
  cases r with
  | un => exact h
  | _ => exact let ⟨v, e, q⟩ := h; ⟨v, e, VOk.up s q⟩
theorem SlOk.get {o : Option V} (h : SlOk K W0 W o r) (hr : r ≠ .un) : ∃ v, o = some v ∧ VOk K W0 W v r := by
  cases r with
  | un => exact absurd rfl hr
  | _ => exact h
theorem SlOk.of {v : V} (h : VOk K W0 W v r) : SlOk K W0 W (some v) r := by
  cases r with
  | un => exact True.intro
  | _ => exact ⟨v, rfl, h⟩
theorem RtOk.of (h : VOk K W0 W v r) (hm : isMine r = false := by rfl) : RtOk K J W0 W σ ρ v r := ⟨h, fun z => (by rw [hm] at z; cases z), fun z => (by rw [mine_of z] at hm; cases hm)⟩
theorem RtOk.up (s : Stp0 W W1) (h : RtOk K J W0 W σ ρ v r) : RtOk K J W0 W1 σ ρ v r := ⟨VOk.up s h.1, h.2⟩
theorem Env.live (E : Env K M J W0 W σ ρ) {p : Addr} (h : ¬ Nt W.H p) : ¬ Nt W0.H p := E.st.non h
theorem Env.fresh (E : Env K M J W0 W σ ρ) {p : Addr} (h : ¬ Nt W.H p) : ¬ J.fp p ∧ ∀ i q, ρ[i]? = some q → isOwn q = true → at_ σ i ≠ some (.ref p) := by
  refine ⟨fun z => h (E.sep p z).2.1, fun i q hq ho e => ?_⟩
  have z := E.sl i q hq
  cases q with
  | own ds =>
    obtain ⟨v, e1, p', vs, e2, _, _, e3, _⟩ := z
    rw [e] at e1
    have e4 := Option.some.inj e1
    rw [e2] at e4
    injection e4 with e4
    rw [e4] at h
    exact h (Nt.lst e3)
  | _ => cases ho
theorem Env.up (E : Env K M J W0 W σ ρ) (s : Stp0 W W1) : Env K M J W0 W1 σ ρ where
  ok := s.h
  st := E.st.trans s.up
  len := E.len
  sl := fun i r h => (E.sl i r h).up s
  ds := E.ds
  res := J.mono _ _ _ _ s.b (fun a o _ e => s.same a o e) s.c (fun T t => t.ext fun b o e => s.same b o e) E.res
  sep := fun a h => ⟨by
    cases q : W1.B a with
    | none => rfl
    | some o =>
      rcases s.n a (by rw [q]; exact fun z => nomatch z) with z | z
      · exact absurd (E.sep a h).1 z
      · exact absurd (E.sep a h).2.1 z, s.l a (E.sep a h).2.1, (E.sep a h).2.2⟩
  nof := E.nof
  nob := E.nob
  nt := E.nt
theorem at_set_self {i : Nat} {o : Option V} (h : i < σ.length) : at_ (σ.set i o) i = o := by
  unfold at_
  rw [List.getElem?_set_self h]
  rfl
theorem at_set_ne {i j : Nat} {o : Option V} (h : i ≠ j) : at_ (σ.set i o) j = at_ σ j := by
  unfold at_
  rw [List.getElem?_set_ne h]
/-- a slot is written -/
theorem Env.set (E : Env K M J W0 W σ ρ) (i : Nat) (h : RtOk K J W0 W σ ρ v r) (hb : ∀ ds, r ≠ .bor ds) : Env K M J W0 W (σ.set i (some v)) (ρ.set i r) where
  ok := E.ok
  st := E.st
  len := by rw [List.length_set, List.length_set]; exact E.len
  sl := fun j q hq => by
    by_cases hj : i = j
    · subst hj
      by_cases hi : i < ρ.length
      · rw [List.getElem?_set_self hi] at hq
        have e := Option.some.inj hq
        subst e
        rw [at_set_self (by rw [E.len]; exact hi)]
        exact .of h.1
      · rw [List.getElem?_eq_none (by rw [List.length_set]; omega)] at hq
        cases hq
    · rw [List.getElem?_set_ne hj] at hq
      rw [at_set_ne hj]
      exact E.sl j q hq
  ds := fun j k p q q' hq hq' o1 o2 a1 a2 => by
    have lt : ∀ {x : Sl}, (ρ.set i r)[i]? = some x → i < ρ.length ∧ x = r := fun {x} hx => by
      by_cases hi : i < ρ.length
      · rw [List.getElem?_set_self hi] at hx
        exact ⟨hi, (Option.some.inj hx).symm⟩
      · rw [List.getElem?_eq_none (by rw [List.length_set]; omega)] at hx
        cases hx
    by_cases hj : i = j
    · by_cases hk : i = k
      · rw [← hj, ← hk]
      · subst hj
        obtain ⟨hi, e⟩ := lt hq
        subst e
        rw [at_set_self (by rw [E.len]; exact hi)] at a1
        rw [List.getElem?_set_ne hk] at hq'
        rw [at_set_ne hk] at a2
        exact absurd a2 (h.2.2 o1 p (Option.some.inj a1) k q' hq' o2)
    · by_cases hk : i = k
      · subst hk
        obtain ⟨hi, e⟩ := lt hq'
        subst e
        rw [at_set_self (by rw [E.len]; exact hi)] at a2
        rw [List.getElem?_set_ne hj] at hq
        rw [at_set_ne hj] at a1
        exact absurd a1 (h.2.2 o2 p (Option.some.inj a2) j q hq o1)
      · rw [List.getElem?_set_ne hj] at hq
        rw [List.getElem?_set_ne hk] at hq'
        rw [at_set_ne hj] at a1
        rw [at_set_ne hk] at a2
        exact E.ds j k p q q' hq hq' o1 o2 a1 a2
  res := E.res
  sep := E.sep
  nof := fun j p q hq o1 a1 => by
    by_cases hj : i = j
    · subst hj
      by_cases hi : i < ρ.length
      · rw [List.getElem?_set_self hi] at hq
        have e := Option.some.inj hq
        subst e
        rw [at_set_self (by rw [E.len]; exact hi)] at a1
        exact h.2.1 (mine_of o1) p (Option.some.inj a1)
      · rw [List.getElem?_eq_none (by rw [List.length_set]; omega)] at hq
        cases hq
    · rw [List.getElem?_set_ne hj] at hq
      rw [at_set_ne hj] at a1
      exact E.nof j p q hq o1 a1
  nob := fun j ds hq => by
    by_cases hj : i = j
    · subst hj
      by_cases hi : i < ρ.length
      · rw [List.getElem?_set_self hi] at hq
        exact hb ds (Option.some.inj hq)
      · rw [List.getElem?_eq_none (by rw [List.length_set]; omega)] at hq
        cases hq
    · rw [List.getElem?_set_ne hj] at hq
      exact E.nob j ds hq
  nt := E.nt
theorem code_ne {c : Addr} {q : Str} {vs : List V} : LamX.CodeO c q ≠ .lst vs := fun z => by
  unfold LamX.CodeO at z
  cases z
theorem code_up {H : Hp} {p a : Addr} {q : Str} {vs us : List V} (hH : H p = some (.lst vs)) (e : H a = some (LamX.CodeO a q)) : upd H p (.lst us) a = some (LamX.CodeO a q) := by
  have ne : a ≠ p := fun z => by
    rw [z, hH] at e
    exact code_ne (Option.some.inj e).symm
  rw [upd_ne ne]; exact e
theorem tabs_upd {T : List (Addr × Str)} {H : Hp} {p : Addr} {o o' : HO} (hH : H p = some o) (n1 : ∀ ps, o ≠ .tbl ps) (n2 : ∀ q, o ≠ LamX.CodeO p q) (t : LamX.Tabs T H) : LamX.Tabs T (upd H p o') := fun q hq => by
  obtain ⟨ps, h1, h2, h3⟩ := t q hq
  have ne : ∀ a u, H a = some u → u ≠ o → a ≠ p := fun a u e hu z => by rw [z, hH] at e; exact hu (Option.some.inj e).symm
  refine ⟨ps, by rw [upd_ne (ne _ _ h1 fun z => n1 ps z.symm)]; exact h1, h2, fun pos cv hc => ?_⟩
  obtain ⟨c', e1, e2⟩ := h3 pos cv hc
  refine ⟨c', e1, ?_⟩
  have nc : c' ≠ p := fun z => by
    rw [z] at e2
    rw [hH] at e2
    exact n2 _ (Option.some.inj e2)
  rw [upd_ne nc]; exact e2
/-- a list of one's own is changed -/
theorem Env.mut (E : Env K M J W0 W σ ρ) {i : Nat} {ds es : List PyData} {p : Addr} {vs : List V} (hr : ρ[i]? = some (.own ds)) (ha : at_ σ i = some (.ref p)) (h : DpAll K W.B vs es) : Env K M J W0 ⟨W.B, upd W.H p (.lst vs)⟩ σ (ρ.set i (.own es)) := by
  obtain ⟨v, e1, p', vs', e2, h0, hB, hH, _⟩ := E.sl i _ hr
  rw [ha] at e1
  have e3 := Option.some.inj e1
  rw [e2] at e3
  injection e3 with e3
  subst e3
  have hi : i < ρ.length := (List.getElem?_eq_some_iff.mp hr).1
  have at' : ∀ {j : Nat} {q : Sl}, (ρ.set i (.own es))[j]? = some q → isOwn q = true → ∃ q', ρ[j]? = some q' ∧ isOwn q' = true := fun {j q} hq ho => by
    by_cases hj : i = j
    · subst hj
      exact ⟨_, hr, rfl⟩
    · rw [List.getElem?_set_ne hj] at hq
      exact ⟨q, hq, ho⟩
  refine ⟨fun a o e => ?_, ⟨E.st.b, fun a o e => ?_, fun a o e m => ?_, E.st.n, fun a e => ?_, fun a q e => code_up hH (E.st.c a q e), E.st.t⟩, by rw [List.length_set]; exact E.len, fun j q hq => ?_, fun j k p' q q' hq hq' o1 o2 a1 a2 => ?_, ?_, fun a fa => ?_, fun j p' q hq o1 a1 => ?_, fun j es' hq => ?_, E.nt⟩
  · show upd _ _ _ _ = _
    rw [upd_ne (ne_of_none e hB)]
    exact E.ok a o e
  · show upd _ _ _ _ = _
    rw [upd_ne (ne_of_none e hB)]
    exact E.ok a o e
  · show upd _ _ _ _ = _
    have e' := E.st.k a o e m
    rw [upd_ne (fun z => by
      subst z
      rw [hH] at e'
      have e2 := Option.some.inj e'
      subst e2
      exact h0 (Nt.lst e))]
    exact e'
  · exact Nt.upd (fun ps z => by cases z) (E.st.l a e)
  · by_cases hj : i = j
    · subst hj
      rw [List.getElem?_set_self hi] at hq
      have e := Option.some.inj hq
      subst e
      exact ⟨_, ha, p, vs, rfl, h0, hB, upd_same, h⟩
    · rw [List.getElem?_set_ne hj] at hq
      have z := E.sl j q hq
      cases q with
      | own ds' =>
        obtain ⟨v', e1', p', vs', e2', h0', hB', hH', hd'⟩ := z
        refine ⟨v', e1', p', vs', e2', h0', hB', ?_, hd'⟩
        show upd _ _ _ _ = _
        have ne : p' ≠ p := fun e => hj (E.ds i j p _ _ hr hq rfl rfl ha (by rw [e1', e2', e]))
        rw [upd_ne ne]
        exact hH'
      | bor ds' => exact absurd hq (E.nob j ds')
      | un => exact z
      | dat d => exact z
      | raw d => exact z
      | fct d => exact z
  · obtain ⟨u, hu, ou⟩ := at' hq o1
    obtain ⟨u', hu', ou'⟩ := at' hq' o2
    exact E.ds j k p' u u' hu hu' ou ou' a1 a2
  · refine J.mono _ _ _ _ (Same.refl _) (fun a o fa e => ?_) (fun a q e => code_up hH e) (fun T t => tabs_upd hH (fun ps z => by cases z) (fun q z => code_ne z.symm) t) E.res
    show upd _ _ _ _ = _
    rw [upd_ne (fun z => E.nof i p _ hr rfl ha (by rw [← z]; exact fa))]
    exact e
  · refine ⟨(E.sep a fa).1, ?_, (E.sep a fa).2.2⟩
    exact Nt.upd (fun ps z => by cases z) (E.sep a fa).2.1
  · obtain ⟨u, hu, ou⟩ := at' hq o1
    exact E.nof j p' u hu ou a1
  · by_cases hj : i = j
    · subst hj
      rw [List.getElem?_set_self hi] at hq
      cases Option.some.inj hq
    · rw [List.getElem?_set_ne hj] at hq
      exact E.nob j es' hq
/-- what is one's own is known from now on -/
theorem frz_ok {W : Wd} {p : Addr} {o : HO} (ok : Same W.B W.H) (hB : W.B p = none) (hH : W.H p = some o) : Same W.B (upd W.B p o) ∧ Same (upd W.B p o) W.H := by
  refine ⟨fun a u e => by rw [upd_ne (ne_of_none e hB)]; exact e, fun a u e => ?_⟩
  by_cases hap : a = p
  · subst hap
    rw [upd_same] at e
    rw [← e]; exact hH
  · rw [upd_ne hap] at e
    exact ok a u e
theorem frz_st {p : Addr} {o : HO} (ok : Same W.B W.H) (st : Stp M W0 W) (h0 : ¬ Nt W0.H p) (hB : W.B p = none) (hH : W.H p = some o) (ho : ∀ ps, o ≠ .tbl ps := by intro ps z; cases z) : Stp M W0 ⟨upd W.B p o, W.H⟩ := by
  obtain ⟨s1, s2⟩ := frz_ok ok hB hH
  refine ⟨st.b.trans s1, s2, st.k, fun a e => ?_, st.l, st.c, fun z a ps e => upd_nt ho (st.t z) a ps e⟩
  by_cases hap : a = p
  · subst hap; exact .inr h0
  · have e' : upd W.B p o a ≠ none := e
    rw [upd_ne hap] at e'
    exact st.n a e'
theorem Env.freeze (E : Env K M J W0 W σ ρ) {i : Nat} {ds : List PyData} (hr : ρ[i]? = some (.own ds)) : ∃ p vs, W.B p = none ∧ W.H p = some (.lst vs) ∧ Env K M J W0 ⟨upd W.B p (.lst vs), W.H⟩ σ (ρ.set i (.dat (.list ds))) := by
  obtain ⟨v, ha, p, vs, e2, h0, hB, hH, hd⟩ := E.sl i _ hr
  subst e2
  obtain ⟨s1, s2⟩ := frz_ok (o := .lst vs) E.ok hB hH
  have hi : i < ρ.length := (List.getElem?_eq_some_iff.mp hr).1
  have at' : ∀ {j : Nat} {q : Sl}, (ρ.set i (.dat (.list ds)))[j]? = some q → isOwn q = true → i ≠ j ∧ ρ[j]? = some q := fun {j q} hq ho => by
    by_cases hj : i = j
    · subst hj
      rw [List.getElem?_set_self hi] at hq
      have e := Option.some.inj hq
      subst e
      cases ho
    · rw [List.getElem?_set_ne hj] at hq
      exact ⟨hj, hq⟩
  refine ⟨p, vs, hB, hH, s2, frz_st E.ok E.st h0 hB hH, by rw [List.length_set]; exact E.len, fun j q hq => ?_, fun j k p' q q' hq hq' o1 o2 a1 a2 => ?_, ?_, fun a fa => ⟨?_, (E.sep a fa).2⟩, fun j p' q hq o1 a1 => ?_, fun j es' hq => ?_, E.nt⟩
  · by_cases hj : i = j
    · subst hj
      rw [List.getElem?_set_self hi] at hq
      have e := Option.some.inj hq
      subst e
      exact ⟨_, ha, .lst (SqL.of upd_same) (DpAll.up s1 hd)⟩
    · rw [List.getElem?_set_ne hj] at hq
      have z := E.sl j q hq
      cases q with
      | own ds' =>
        obtain ⟨v', e1', p', vs', e2', h0', hB', hH', hd'⟩ := z
        have ne : p' ≠ p := fun e => hj (E.ds i j p _ _ hr hq rfl rfl ha (by rw [e1', e2', e]))
        exact ⟨v', e1', p', vs', e2', h0', by show upd _ _ _ _ = _; rw [upd_ne ne]; exact hB', hH', DpAll.up s1 hd'⟩
      | bor ds' => exact absurd hq (E.nob j ds')
      | un => exact z
      | dat d => exact let ⟨v', e', q'⟩ := z; ⟨v', e', Dp.up s1 q'⟩
      | raw d => exact z
      | fct d => exact let ⟨v', e', q'⟩ := z; ⟨v', e', d.mono s1 q'⟩
  · exact E.ds j k p' q q' (at' hq o1).2 (at' hq' o2).2 o1 o2 a1 a2
  · exact J.mono _ _ _ _ s1 (fun a o fa e => e) (fun _ _ e => e) (fun _ t => t) E.res
  · show upd _ _ _ _ = _
    rw [upd_ne (fun z => E.nof i p _ hr rfl ha (by rw [← z]; exact fa))]
    exact (E.sep a fa).1
  · exact E.nof j p' q (at' hq o1).2 o1 a1
  · by_cases hj : i = j
    · subst hj
      rw [List.getElem?_set_self hi] at hq
      cases Option.some.inj hq
    · rw [List.getElem?_set_ne hj] at hq
      exact E.nob j es' hq
end
end DL

namespace DL
open PySem PySem.Spec PyProof.Rows L2
/-! ### judgements -/
structure Exn where
  C : Addr
  f : Str
  d : PyData
/-- one run of a def: its context, what it may change, the world at its start, the wish of an exception and what may be raised -/
structure Act where
  X : Cx
  M : Md
  W0 : Wd
  E : XK
  px : Exn → Res → Prop
structure Sat (K : PySem.W.Frag) (M : Md) (W0 : Wd) (J : Res) (W : Wd) : Prop where
  ok : Same W.B W.H
  st : Stp M W0 W
  res : J.P W.B W.H
  sep : ∀ a, J.fp a → W.B a = none ∧ Nt W.H a ∧ (M.z a ∨ ¬ Nt W0.H a)
def Exits (A : Act) : Prop := ∀ (x : Exn) (J : Res) (v : V) (dd : Addr) (W : Wd), A.px x J → Sat A.X.K A.M A.W0 J W → W.H dd = some (.xd [(x.f, v)]) → W.B dd = none → Dp A.X.K W.B v x.d → A.E (.ref x.C) (some dd) W.H
abbrev EnvA (A : Act) (J : Res) (W : Wd) (σ : St) (ρ : List Sl) : Prop := Env A.X.K A.M J A.W0 W σ ρ
abbrev RtA (A : Act) (J : Res) (W : Wd) (σ : St) (ρ : List Sl) (v : V) (r : Sl) : Prop := RtOk A.X.K J A.W0 W σ ρ v r
theorem Env.sat {K : PySem.W.Frag} {M : Md} {J : Res} {W0 W : Wd} {σ : St} {ρ : List Sl} (E : Env K M J W0 W σ ρ) : Sat K M W0 J W := ⟨E.ok, E.st, E.res, E.sep⟩
/-- what follows an expression -/
def Wk (A : Act) (ρ : List Sl) (J : Res) (R : Sl → Prop) (W : Wd) (σ : St) (Q : VK) : Prop := ∀ (r : Sl) (v : V) (W1 : Wd), R r → Stp0 W W1 → RtA A J W1 σ ρ v r → Q v W1.H
def WeT (A : Act) (e : Expr) (ρ : List Sl) (J : Res) (R : Sl → Prop) : Prop := ∀ (W : Wd) (σ : St) (Q : VK), EnvA A J W σ ρ → Exits A → Wk A ρ J R W σ Q → tE A.X e σ W.H Q
structure We (A : Act) (e : Expr) (ρ : List Sl) (J : Res) (R : Sl → Prop) : Prop where
  run : WeT A e ρ J R
instance (A : Act) (e : Expr) (ρ : List Sl) (J : Res) (R : Sl → Prop) : CoeFun (We A e ρ J R) (fun _ => WeT A e ρ J R) := ⟨We.run⟩
def WaT (A : Act) (es : List Expr) (ρ : List Sl) (J : Res) (R : List Sl → Prop) : Prop := ∀ (W : Wd) (σ : St) (Q : List V → Hp → Prop), EnvA A J W σ ρ → Exits A →
  (∀ (rs : List Sl) (vs : List V) (W1 : Wd), R rs → Stp0 W W1 → Paired (fun v r => RtA A J W1 σ ρ v r) vs rs → Q vs W1.H) → tA A.X es σ W.H Q
structure Wa (A : Act) (es : List Expr) (ρ : List Sl) (J : Res) (R : List Sl → Prop) : Prop where
  run : WaT A es ρ J R
instance (A : Act) (es : List Expr) (ρ : List Sl) (J : Res) (R : List Sl → Prop) : CoeFun (Wa A es ρ J R) (fun _ => WaT A es ρ J R) := ⟨Wa.run⟩
def WtT (A : Act) (e : Expr) (ρ : List Sl) (J : Res) (R : Bool → Prop) : Prop := ∀ (W : Wd) (σ : St) (Q : Bool → Hp → Prop), EnvA A J W σ ρ → Exits A → (∀ (b : Bool) (W1 : Wd), R b → Stp0 W W1 → Q b W1.H) → tT A.X e σ W.H Q
structure Wt (A : Act) (e : Expr) (ρ : List Sl) (J : Res) (R : Bool → Prop) : Prop where
  run : WtT A e ρ J R
instance (A : Act) (e : Expr) (ρ : List Sl) (J : Res) (R : Bool → Prop) : CoeFun (Wt A e ρ J R) (fun _ => WtT A e ρ J R) := ⟨Wt.run⟩
def WwT (A : Act) (e : Expr) (ρ : List Sl) (J : Res) (R : Bool → Prop) : Prop := ∀ (W : Wd) (σ : St) (Q : Bool → Hp → Prop), EnvA A J W σ ρ → Exits A → (∀ (b : Bool) (W1 : Wd), R b → Stp0 W W1 → Q b W1.H) → tW A.X e σ W.H Q
structure Ww (A : Act) (e : Expr) (ρ : List Sl) (J : Res) (R : Bool → Prop) : Prop where
  run : WwT A e ρ J R
instance (A : Act) (e : Expr) (ρ : List Sl) (J : Res) (R : Bool → Prop) : CoeFun (Ww A e ρ J R) (fun _ => WwT A e ρ J R) := ⟨Ww.run⟩
/-! operations on values -/
def oR (X : Cx) (f : Value → Value → Sem Value) : R2 := fun x y H Q => ∀ (pins : List (Addr × Obj)) (s : Shared) (σ : St) (v u : Value), Inv X pins σ H s → RelV x v → RelV y u → wpAny (model X.prog X.w) X.A (f v u) (EP X pins σ Q) X.xe s
def uR (X : Cx) (f : Value → Sem Value) : V → Hp → VK → Prop := fun x H Q => ∀ (pins : List (Addr × Obj)) (s : Shared) (σ : St) (v : Value), Inv X pins σ H s → RelV x v → wpAny (model X.prog X.w) X.A (f v) (EP X pins σ Q) X.xe s
def cR (X : Cx) (f : Value) : List V → Hp → VK → Prop := fun xs H Q => ∀ (pins : List (Addr × Obj)) (s : Shared) (σ : St) (us : List Value), Inv X pins σ H s → Vals xs us → wpAny (model X.prog X.w) X.A (call f us) (EP X pins σ Q) X.xe s
theorem oR_ok {X : Cx} {f : Value → Value → Sem Value} : OpR X f (oR X f) := fun pins s σ H x y v u Q I r1 r2 h => h pins s σ v u I r1 r2
theorem uR_ok {X : Cx} {f : Value → Sem Value} : UnR X f (uR X f) := fun pins s σ H x v Q I r1 h => h pins s σ v I r1
theorem cR_ok {X : Cx} {f : Value} : CallR X f (cR X f) := fun pins s σ H xs us Q I r1 h => h pins s σ us I r1
theorem o_at {X : Cx} {f : Value → Value → Sem Value} {r : R2} (h : OpR X f r) {x y : V} {H : Hp} {Q : VK} (q : r x y H Q) : oR X f x y H Q := fun pins s σ v u I r1 r2 => h pins s σ H x y v u Q I r1 r2 q
theorem u_at {X : Cx} {f : Value → Sem Value} {r : V → Hp → VK → Prop} (h : UnR X f r) {x : V} {H : Hp} {Q : VK} (q : r x H Q) : uR X f x H Q := fun pins s σ v I r1 => h pins s σ H x v Q I r1 q
theorem c_at {X : Cx} {f : Value} {r : List V → Hp → VK → Prop} (h : CallR X f r) {xs : List V} {H : Hp} {Q : VK} (q : r xs H Q) : cR X f xs H Q := fun pins s σ us I r1 => h pins s σ H xs us Q I r1 q
def OdT (A : Act) (f : Value → Value → Sem Value) (ρ : List Sl) (J : Res) (r1 r2 : Sl) (R : Sl → Prop) : Prop := ∀ (W : Wd) (σ : St) (v1 v2 : V) (Q : VK), EnvA A J W σ ρ → RtA A J W σ ρ v1 r1 → RtA A J W σ ρ v2 r2 → Wk A ρ J R W σ Q → oR A.X f v1 v2 W.H Q
structure Od (A : Act) (f : Value → Value → Sem Value) (ρ : List Sl) (J : Res) (r1 r2 : Sl) (R : Sl → Prop) : Prop where
  run : OdT A f ρ J r1 r2 R
instance (A : Act) (f : Value → Value → Sem Value) (ρ : List Sl) (J : Res) (r1 r2 : Sl) (R : Sl → Prop) : CoeFun (Od A f ρ J r1 r2 R) (fun _ => OdT A f ρ J r1 r2 R) := ⟨Od.run⟩
def UdT (A : Act) (f : Value → Sem Value) (ρ : List Sl) (J : Res) (r1 : Sl) (R : Sl → Prop) : Prop := ∀ (W : Wd) (σ : St) (v1 : V) (Q : VK), EnvA A J W σ ρ → RtA A J W σ ρ v1 r1 → Wk A ρ J R W σ Q → uR A.X f v1 W.H Q
structure Ud (A : Act) (f : Value → Sem Value) (ρ : List Sl) (J : Res) (r1 : Sl) (R : Sl → Prop) : Prop where
  run : UdT A f ρ J r1 R
instance (A : Act) (f : Value → Sem Value) (ρ : List Sl) (J : Res) (r1 : Sl) (R : Sl → Prop) : CoeFun (Ud A f ρ J r1 R) (fun _ => UdT A f ρ J r1 R) := ⟨Ud.run⟩
def CdT (A : Act) (f : Value) (ρ : List Sl) (J : Res) (rs : List Sl) (R : Sl → Prop) : Prop := ∀ (W : Wd) (σ : St) (vs : List V) (Q : VK), EnvA A J W σ ρ → Paired (fun v r => RtA A J W σ ρ v r) vs rs → Wk A ρ J R W σ Q → cR A.X f vs W.H Q
structure Cd (A : Act) (f : Value) (ρ : List Sl) (J : Res) (rs : List Sl) (R : Sl → Prop) : Prop where
  run : CdT A f ρ J rs R
instance (A : Act) (f : Value) (ρ : List Sl) (J : Res) (rs : List Sl) (R : Sl → Prop) : CoeFun (Cd A f ρ J rs R) (fun _ => CdT A f ρ J rs R) := ⟨Cd.run⟩
section
variable {A : Act} {ρ : List Sl} {J : Res} {R : Sl → Prop} {W W1 : Wd} {σ : St} {Q : VK}
theorem Wk.from (h : Wk A ρ J R W σ Q) (s : Stp0 W W1) : Wk A ρ J R W1 σ Q := fun r v W2 hr s2 o => h r v W2 hr (s.trans s2) o
theorem Wk.now (h : Wk A ρ J R W σ Q) (E : EnvA A J W σ ρ) {r : Sl} {v : V} (hr : R r) (o : RtA A J W σ ρ v r) : Q v W.H := h r v W hr (.refl E.ok) o
theorem RtA.dat {d : PyData} {v : V} (h : Dp A.X.K W.B v d) : RtA A J W σ ρ v (.dat d) := RtOk.of h
theorem RtA.int {i : Int} : RtA A J W σ ρ (.int i) (.dat (.int i)) := RtA.dat (.int i)
theorem RtA.str {i : Str} : RtA A J W σ ρ (.str i) (.dat (.str i)) := RtA.dat (.str i)
theorem RtA.bl {i : Bool} : RtA A J W σ ρ (.bl i) (.dat (.bool i)) := RtA.dat (.bl i)
theorem RtA.non : RtA A J W σ ρ .non (.dat .none) := RtA.dat .non
/-- the datum of a readable value, in the whole heap -/
def dOf : Sl → Option PyData
  | .dat d => some d
  | .own ds => some (.list ds)
  | .bor ds => some (.list ds)
  | _ => none
theorem RtA.dp {v : V} {r : Sl} {d : PyData} (h : RtA A J W σ ρ v r) (e : dOf r = some d) (ok : Same W.B W.H) : Dp A.X.K W.H v d := by
  cases r with
  | dat d' =>
    have e' := Option.some.inj e
    subst e'
    exact Dp.up ok h.1
  | own ds =>
    have e' := Option.some.inj e
    subst e'
    obtain ⟨p, vs, rfl, _, _, h2, h3⟩ := h.1
    exact .lst (SqL.of h2) (DpAll.up ok h3)
  | bor ds =>
    have e' := Option.some.inj e
    subst e'
    obtain ⟨p, vs, rfl, _, _, h2, h3⟩ := h.1
    exact .lst (SqL.of h2) (DpAll.up ok h3)
  | _ => cases e
/-- a readable list: where it stands, its items lasting -/
theorem RtA.lst {v : V} {r : Sl} {ds : List PyData} (h : RtA A J W σ ρ v r) (e : dOf r = some (.list ds)) (ok : Same W.B W.H) : ∃ p vs, v = .ref p ∧ SqL A.X.K W.H p vs ∧ DpAll A.X.K W.B vs ds := by
  cases r with
  | dat d' =>
    have e' := Option.some.inj e
    subst e'
    obtain ⟨a, xs, rfl, h1, h2⟩ := dp_lst h.1
    exact ⟨a, xs, rfl, ok.seq h1, h2⟩
  | own ds =>
    have e' : PyData.list _ = PyData.list _ := Option.some.inj e
    injection e' with e'
    subst e'
    obtain ⟨p, vs, rfl, _, _, h2, h3⟩ := h.1
    exact ⟨p, vs, rfl, SqL.of h2, h3⟩
  | bor ds =>
    have e' : PyData.list _ = PyData.list _ := Option.some.inj e
    injection e' with e'
    subst e'
    obtain ⟨p, vs, rfl, _, _, h2, h3⟩ := h.1
    exact ⟨p, vs, rfl, SqL.of h2, h3⟩
  | _ => cases e
theorem RtA.tup {v : V} {ds : List PyData} (h : RtA A J W σ ρ v (.dat (.tuple ds))) (ok : Same W.B W.H) : ∃ p vs, v = .ref p ∧ SqT A.X.K W.H p vs ∧ SqT A.X.K W.B p vs ∧ DpAll A.X.K W.B vs ds := by
  obtain ⟨a, xs, rfl, h1, h2⟩ := dp_tup h.1
  exact ⟨a, xs, rfl, seqT ok h1, h1, h2⟩
/-- a new datum -/
theorem Wk.newT (h : Wk A ρ J R W σ Q) (E : EnvA A J W σ ρ) {vs : List V} {ds : List PyData} (ha : DpAll A.X.K W.B vs ds) (hr : R (.dat (.tuple ds))) : ∀ p, W.H p = none → Q (.ref p) (upd W.H p (.tup vs)) := fun p hp =>
  h _ (.ref p) ⟨upd W.B p (.tup vs), upd W.H p (.tup vs)⟩ hr (Stp.new E.ok hp) (RtA.dat (.tup (SqT.of upd_same) (DpAll.up (Stp.new (o := .tup vs) E.ok hp).b ha)))
theorem Wk.newL (h : Wk A ρ J R W σ Q) (E : EnvA A J W σ ρ) {vs : List V} {ds : List PyData} (ha : DpAll A.X.K W.B vs ds) (hr : R (.own ds)) : ∀ p, W.H p = none → Q (.ref p) (upd W.H p (.lst vs)) := fun p hp => by
  have f := E.fresh (Nt.not hp)
  refine h _ (.ref p) ⟨W.B, upd W.H p (.lst vs)⟩ hr (Stp.mine E.ok hp) ⟨⟨p, vs, rfl, E.live (Nt.not hp), E.ok.free hp, upd_same, ha⟩, fun _ q e => ?_, fun _ q e => ?_⟩
  · injection e with e
    subst e
    exact f.1
  · injection e with e
    subst e
    exact f.2
end

/-! ### expressions -/
section
variable {A : Act} {ρ : List Sl} {J : Res} {R : Sl → Prop} {a b c e : Expr} {es : List Expr} {pos : Pos}
theorem we_mono {R' : Sl → Prop} (h : We A e ρ J R) (hr : ∀ r, R r → R' r) : We A e ρ J R' := .mk fun W σ Q E X k => h W σ Q E X fun r v W1 h1 => k r v W1 (hr r h1)
theorem we_int {i : Int} {j} (h : R (.dat (.int i))) : We A (.Constant (.int i) j pos) ρ J R := .mk fun W σ Q E X k => e_at pe_int (show Q (.int i) W.H from k.now E h RtA.int)
theorem we_str {i : Str} {j} (h : R (.dat (.str i))) : We A (.Constant (.str i) j pos) ρ J R := .mk fun W σ Q E X k => e_at pe_str (show Q (.str i) W.H from k.now E h RtA.str)
theorem we_bl {i : Bool} {j} (h : R (.dat (.bool i))) : We A (.Constant (.bool i) j pos) ρ J R := .mk fun W σ Q E X k => e_at pe_bl (show Q (.bl i) W.H from k.now E h RtA.bl)
theorem we_non {j} (h : R (.dat .none)) : We A (.Constant .none j pos) ρ J R := .mk fun W σ Q E X k => e_at pe_non (show Q .non W.H from k.now E h RtA.non)
theorem at_some {σ : St} {i : Nat} {v : V} (h : at_ σ i = some v) : σ[i]? = some (some v) := by
  unfold at_ at h
  cases e : σ[i]? with
  | none => rw [e] at h; cases h
  | some o =>
    rw [e] at h
    have h' : o = some v := h
    rw [h']
theorem we_var (i : Nat) {x : Str} {r : Sl} (h : R r) (hr : ρ[i]? = some r := by rfl) (hu : r ≠ .un := by exact fun z => nomatch z) (ho : isOwn r = false := by rfl) (hN : A.X.N[i]? = some x := by rfl) (hv : Vis A.X.env.scope x := by first | exact Or.inl rfl | exact Or.inr (Or.inl rfl) | exact Or.inr (Or.inr rfl))
    (hd : (x == ("__debug__" : Str)) = false := by decide) (hcd : (x == ("__classdict__" : Str)) = false := by decide) : We A (.Name x pos) ρ J R := .mk fun W σ Q E X k => by
  obtain ⟨v, e1, o⟩ := (E.sl i r hr).get hu
  refine e_at (pe_var hN hv hd hcd) ⟨v, at_some e1, k.now E h ?_⟩
  cases r with
  | own ds => cases ho
  | bor ds => exact absurd hr (E.nob i ds)
  | un => exact absurd rfl hu
  | dat d => exact RtOk.of o
  | raw d => exact RtOk.of o
  | fct d => exact RtOk.of o
/-- the name of a list of one's own -/
theorem we_varO (i : Nat) {x : Str} {ds : List PyData} (h : R (.bor ds)) (hr : ρ[i]? = some (.own ds) := by rfl) (hN : A.X.N[i]? = some x := by rfl) (hv : Vis A.X.env.scope x := by first | exact Or.inl rfl | exact Or.inr (Or.inl rfl) | exact Or.inr (Or.inr rfl))
    (hd : (x == ("__debug__" : Str)) = false := by decide) (hcd : (x == ("__classdict__" : Str)) = false := by decide) : We A (.Name x pos) ρ J R := .mk fun W σ Q E X k => by
  obtain ⟨v, e1, o⟩ := (E.sl i _ hr).get (fun z => nomatch z)
  refine e_at (pe_var hN hv hd hcd) ⟨v, at_some e1, k.now E h ?_⟩
  exact ⟨o, fun _ p e => E.nof i p _ hr rfl (by rw [e1, e]), fun z => Bool.noConfusion z⟩
theorem we_glob {x : Str} {v : V} (hm : ∃ u, A.X.mg x = some u ∧ RelV v u) {d : PyData} (hd : ∀ B, Dp A.X.K B v d) (h : R (.dat d)) (hg : Gl A.X x := by rfl) (hdb : (x == ("__debug__" : Str)) = false := by decide) : We A (.Name x pos) ρ J R := .mk fun W σ Q E X k => by
  obtain ⟨u, hm, r⟩ := hm
  exact e_at (pe_glob hg hm r hdb) (show Q v W.H from k.now E h (RtA.dat (hd W.B)))
theorem we_bin {op : Operator} (h : We A a ρ J fun r1 => We A b ρ J fun r2 => Od A (binaryOp op) ρ J r1 r2 R) : We A (.BinOp a op b pos) ρ J R := .mk fun W σ Q E X k => by
  refine e_at (pe_op (r := oR A.X (binaryOp op)) oR_ok pe_sem pe_sem) ?_
  show tE A.X a σ W.H fun x H1 => tE A.X b σ H1 fun y H2 => oR A.X (binaryOp op) x y H2 Q
  refine h W σ _ E X fun r1 v1 W1 h1 s1 o1 => h1 W1 σ _ (E.up s1) X fun r2 v2 W2 h2 s2 o2 => ?_
  exact h2 W2 σ v1 v2 Q ((E.up s1).up s2) (o1.up s2) o2 (k.from (s1.trans s2))
theorem we_un {op : UnaryOp} (h : We A a ρ J fun r1 => Ud A (unaryOp op) ρ J r1 R) : We A (.UnaryOp op a pos) ρ J R := .mk fun W σ Q E X k => by
  refine e_at (pe_un (r := uR A.X (unaryOp op)) uR_ok pe_sem) ?_
  show tE A.X a σ W.H fun x H1 => uR A.X (unaryOp op) x H1 Q
  exact h W σ _ E X fun r1 v1 W1 h1 s1 o1 => h1 W1 σ v1 Q (E.up s1) o1 (k.from s1)
theorem we_cmp {op : CmpOp} (hm : behindInMarks op b = false) (h : We A a ρ J fun r1 => We A b ρ J fun r2 => Od A (compareOp op) ρ J r1 r2 R) : We A (.Compare a [op] [b] pos) ρ J R := .mk fun W σ Q E X k => by
  refine e_at (pe_cmpR (r := oR A.X (compareOp op)) oR_ok pe_sem pe_sem hm) ?_
  show tE A.X a σ W.H fun x H1 => tE A.X b σ H1 fun y H2 => oR A.X (compareOp op) x y H2 Q
  refine h W σ _ E X fun r1 v1 W1 h1 s1 o1 => h1 W1 σ _ (E.up s1) X fun r2 v2 W2 h2 s2 o2 => ?_
  exact h2 W2 σ v1 v2 Q ((E.up s1).up s2) (o1.up s2) o2 (k.from (s1.trans s2))
theorem wt_cmp {op : CmpOp} {R : Bool → Prop} (hm : behindInMarks op b = false) (h : We A a ρ J fun r1 => We A b ρ J fun r2 => Od A (compareOp op) ρ J r1 r2 fun r => ∃ k, r = .dat (.bool k) ∧ R k) : Wt A (.Compare a [op] [b] pos) ρ J R := .mk fun W σ Q E X k => by
  refine t_at (pt_cmpR (r := oR A.X (compareOp op)) oR_ok pe_sem pe_sem hm) ?_
  show tE A.X a σ W.H fun x H1 => tE A.X b σ H1 fun y H2 => oR A.X (compareOp op) x y H2 fun x H' => ∃ k, x = .bl k ∧ Q k H'
  refine h W σ _ E X fun r1 v1 W1 h1 s1 o1 => h1 W1 σ _ (E.up s1) X fun r2 v2 W2 h2 s2 o2 => ?_
  refine h2 W2 σ v1 v2 _ ((E.up s1).up s2) (o1.up s2) o2 fun r v W3 h3 s3 o3 => ?_
  obtain ⟨kk, rfl, hk⟩ := h3
  exact ⟨kk, dp_bl o3.1, k kk W3 hk ((s1.trans s2).trans s3)⟩
/-- a value that is a bool, as a test -/
theorem wt_val {R : Bool → Prop} (h : We A e ρ J fun r => ∃ k, r = .dat (.bool k) ∧ R k) (he : ∀ whole, isTrue e A.X.env whole = (do let v ← whole; standAt e.pos; holding [v] (truthy v)) := by intro _; rfl) : Wt A e ρ J R := .mk fun W σ Q E X k => by
  refine t_at (pt_val pe_sem he) ?_
  show tE A.X e σ W.H fun x H1 => ∃ c, x = .bl c ∧ Q c H1
  refine h W σ _ E X fun r1 v1 W1 h1 s1 o1 => ?_
  obtain ⟨kk, rfl, hk⟩ := h1
  exact ⟨kk, dp_bl o1.1, k kk W1 hk s1⟩
theorem wt_not {R : Bool → Prop} (h : Wt A e ρ J fun b => R (!b)) : Wt A (.UnaryOp .Not e pos) ρ J R := .mk fun W σ Q E X k => by
  refine t_at (pt_not pt_sem) ?_
  show tT A.X e σ W.H fun c H1 => Q (!c) H1
  exact h W σ _ E X fun c W1 h1 s1 => k _ W1 h1 s1
theorem ww_and1 {R : Bool → Prop} (h : Wt A a ρ J R) : Ww A (.BoolOp .And [a] pos) ρ J R := .mk fun W σ Q E X k => w_at (pw_and1 pt_sem) (h W σ Q E X k)
theorem ww_or1 {R : Bool → Prop} (h : Wt A a ρ J R) : Ww A (.BoolOp .Or [a] pos) ρ J R := .mk fun W σ Q E X k => w_at (pw_or1 pt_sem) (h W σ Q E X k)
theorem ww_and {R : Bool → Prop} (h : Wt A a ρ J fun k => if k = true then Ww A (.BoolOp .And (b :: es) pos) ρ J R else R false) : Ww A (.BoolOp .And (a :: b :: es) pos) ρ J R := .mk fun W σ Q E X k => by
  refine w_at (pw_and pt_sem pw_sem) ?_
  show tT A.X a σ W.H fun c H1 => if c = true then tW A.X _ σ H1 Q else Q false H1
  refine h W σ _ E X fun c W1 h1 s1 => ?_
  cases c with
  | true => exact iteT ((show Ww A (.BoolOp .And (b :: es) pos) ρ J R from h1) W1 σ Q (E.up s1) X fun d W2 h2 s2 => k d W2 h2 (s1.trans s2))
  | false => exact iteF (k false W1 h1 s1)
theorem ww_or {R : Bool → Prop} (h : Wt A a ρ J fun k => if k = true then R true else Ww A (.BoolOp .Or (b :: es) pos) ρ J R) : Ww A (.BoolOp .Or (a :: b :: es) pos) ρ J R := .mk fun W σ Q E X k => by
  refine w_at (pw_or pt_sem pw_sem) ?_
  show tT A.X a σ W.H fun c H1 => if c = true then Q true H1 else tW A.X _ σ H1 Q
  refine h W σ _ E X fun c W1 h1 s1 => ?_
  cases c with
  | true => exact iteT (k true W1 h1 s1)
  | false => exact iteF ((show Ww A (.BoolOp .Or (b :: es) pos) ρ J R from h1) W1 σ Q (E.up s1) X fun d W2 h2 s2 => k d W2 h2 (s1.trans s2))
theorem wt_bool {R : Bool → Prop} {op : BoolOp} (h : Ww A (.BoolOp op es pos) ρ J R) : Wt A (.BoolOp op es pos) ρ J R := .mk fun W σ Q E X k => t_at (PW.pt pw_sem) (h W σ Q E X k)
/-- and, or, not as values, of bools -/
theorem we_one {op} (h : We A a ρ J R) : We A (.BoolOp op [a] pos) ρ J R := .mk fun W σ Q E X k => e_at (pe_one pe_sem) (h W σ Q E X k)
theorem we_and (h : We A a ρ J fun r => ∃ k, r = .dat (.bool k) ∧ if k = true then We A (.BoolOp .And (b :: es) pos) ρ J R else R (.dat (.bool false))) : We A (.BoolOp .And (a :: b :: es) pos) ρ J R := .mk fun W σ Q E X k => by
  refine e_at (pe_and pe_sem pe_sem) ?_
  show tE A.X a σ W.H fun x H1 => ∃ c, x = .bl c ∧ if c = true then tE A.X _ σ H1 Q else Q (.bl false) H1
  refine h W σ _ E X fun r v W1 h1 s1 o1 => ?_
  obtain ⟨c, rfl, h1⟩ := h1
  refine ⟨c, dp_bl o1.1, ?_⟩
  cases c with
  | true => exact iteT ((show We A (.BoolOp .And (b :: es) pos) ρ J R from h1) W1 σ Q (E.up s1) X (k.from s1))
  | false => exact iteF ((k.from s1).now (E.up s1) h1 RtA.bl)
theorem we_or (h : We A a ρ J fun r => ∃ k, r = .dat (.bool k) ∧ if k = true then R (.dat (.bool true)) else We A (.BoolOp .Or (b :: es) pos) ρ J R) : We A (.BoolOp .Or (a :: b :: es) pos) ρ J R := .mk fun W σ Q E X k => by
  refine e_at (pe_or pe_sem pe_sem) ?_
  show tE A.X a σ W.H fun x H1 => ∃ c, x = .bl c ∧ if c = true then Q (.bl true) H1 else tE A.X _ σ H1 Q
  refine h W σ _ E X fun r v W1 h1 s1 o1 => ?_
  obtain ⟨c, rfl, h1⟩ := h1
  refine ⟨c, dp_bl o1.1, ?_⟩
  cases c with
  | true => exact iteT ((k.from s1).now (E.up s1) h1 RtA.bl)
  | false => exact iteF ((show We A (.BoolOp .Or (b :: es) pos) ρ J R from h1) W1 σ Q (E.up s1) X (k.from s1))
theorem we_not (h : We A a ρ J fun r => ∃ k, r = .dat (.bool k) ∧ R (.dat (.bool (!k)))) : We A (.UnaryOp .Not a pos) ρ J R := .mk fun W σ Q E X k => by
  refine e_at (pe_not pe_sem) ?_
  show tE A.X a σ W.H fun x H1 => ∃ c, x = .bl c ∧ Q (.bl (!c)) H1
  refine h W σ _ E X fun r v W1 h1 s1 o1 => ?_
  obtain ⟨c, rfl, h1⟩ := h1
  exact ⟨c, dp_bl o1.1, (k.from s1).now (E.up s1) h1 RtA.bl⟩
theorem we_ifExp (h : Wt A c ρ J fun k => if k = true then We A a ρ J R else We A b ρ J R) : We A (.IfExp c a b pos) ρ J R := .mk fun W σ Q E X k => by
  refine e_at (pe_ifExp pt_sem pe_sem pe_sem) ?_
  show tT A.X c σ W.H fun c H1 => if c = true then tE A.X a σ H1 Q else tE A.X b σ H1 Q
  refine h W σ _ E X fun c W1 h1 s1 => ?_
  cases c with
  | true => exact iteT ((show We A a ρ J R from h1) W1 σ Q (E.up s1) X (k.from s1))
  | false => exact iteF ((show We A b ρ J R from h1) W1 σ Q (E.up s1) X (k.from s1))
/-! argument lists, displays -/
theorem wa_nil {R : List Sl → Prop} (h : R []) : Wa A [] ρ J R := .mk fun W σ Q E X k => a_at pa_nil (show Q [] W.H from k [] [] W h (.refl E.ok) .nil)
theorem wa_cons {R : List Sl → Prop} (h : We A e ρ J fun r => Wa A es ρ J fun rs => R (r :: rs)) (hs : starEach (e :: es) A.X.env = (false, eval e A.X.env) :: starEach es A.X.env := by rfl) : Wa A (e :: es) ρ J R := .mk fun W σ Q E X k => by
  refine a_at (pa_cons pe_sem pa_sem hs) ?_
  show tE A.X e σ W.H fun x H1 => tA A.X es σ H1 fun xs H2 => Q (x :: xs) H2
  refine h W σ _ E X fun r v W1 h1 s1 o1 => h1 W1 σ _ (E.up s1) X fun rs vs W2 h2 s2 o2 => ?_
  exact k (r :: rs) (v :: vs) W2 h2 (s1.trans s2) (.cons (o1.up s2) o2)
/-- lasting data -/
inductive Dats : List Sl → List PyData → Prop
  | nil : Dats [] []
  | cons {d : PyData} {rs : List Sl} {ds : List PyData} : Dats rs ds → Dats (.dat d :: rs) (d :: ds)
theorem Dats.all {W : Wd} {σ : St} : ∀ {rs : List Sl} {vs : List V} {ds : List PyData}, Dats rs ds → Paired (fun v r => RtA A J W σ ρ v r) vs rs → DpAll A.X.K W.B vs ds
  | _, _, _, .nil, .nil => .nil
  | _, _, _, .cons h, .cons o r => .cons o.1 (Dats.all h r)
def datsOf : List Sl → Option (List PyData)
  | [] => some []
  | .dat d :: r => (datsOf r).map (d :: ·)
  | _ => none
theorem dats_of : ∀ {rs : List Sl} {ds : List PyData}, datsOf rs = some ds → Dats rs ds
  | [], ds, h => by
    have e := Option.some.inj h
    subst e
    exact .nil
  | .dat d :: r, ds, h => by
    have h' : (datsOf r).map (d :: ·) = some ds := h
    cases q : datsOf r with
    | none => rw [q] at h'; cases h'
    | some es =>
      rw [q] at h'
      have e := Option.some.inj h'
      subst e
      exact .cons (dats_of q)
  | .un :: r, ds, h => by cases h
  | .own _ :: r, ds, h => by cases h
  | .bor _ :: r, ds, h => by cases h
  | .raw _ :: r, ds, h => by cases h
  | .fct _ :: r, ds, h => by cases h
theorem we_tup {j} (h : Wa A es ρ J fun rs => ∃ ds, datsOf rs = some ds ∧ ds.length ≤ 100000 ∧ R (.dat (.tuple ds))) : We A (.Tuple es j pos) ρ J R := .mk fun W σ Q E X k => by
  refine e_at (pe_tup pa_sem) ?_
  show tA A.X es σ W.H fun xs H1 => xs.length ≤ sizeLine ∧ ∀ p, H1 p = none → Q (.ref p) (upd H1 p (.tup xs))
  refine h W σ _ E X fun rs vs W1 h1 s1 o1 => ?_
  obtain ⟨ds, hd, hl, hr⟩ := h1
  have ha := (dats_of hd).all o1
  exact ⟨by rw [DpAll.len ha]; exact Nat.le_trans hl (by decide), (k.from s1).newT (E.up s1) ha hr⟩
theorem we_lst (h : Wa A es ρ J fun rs => ∃ ds, datsOf rs = some ds ∧ ds.length ≤ 100000 ∧ R (.own ds)) : We A (.List es pos) ρ J R := .mk fun W σ Q E X k => by
  refine e_at (pe_lst pa_sem) ?_
  show tA A.X es σ W.H fun xs H1 => xs.length ≤ sizeLine ∧ ∀ p, H1 p = none → Q (.ref p) (upd H1 p (.lst xs))
  refine h W σ _ E X fun rs vs W1 h1 s1 o1 => ?_
  obtain ⟨ds, hd, hl, hr⟩ := h1
  have ha := (dats_of hd).all o1
  exact ⟨by rw [DpAll.len ha]; exact Nat.le_trans hl (by decide), (k.from s1).newL (E.up s1) ha hr⟩
/-! builtins by name -/
theorem we_callB {x : Str} {id : String} {p : Pos} (hm : A.X.mg x = none) (hv : bootBuiltins x = some (.builtin id)) (h : Wa A (e :: es) ρ J fun rs => Cd A (.builtin id) ρ J rs R) (hg : Gl A.X x := by rfl) (hn : x ≠ "__name__" := by decide) (hdb : (x == ("__debug__" : Str)) = false := by decide)
    (he : starEach (e :: es) A.X.env = (false, eval e A.X.env) :: starEach es A.X.env := by rfl) (hpl : (backTo pos (starEach es A.X.env)).any (·.1) = false := by rfl) : We A (.Call (.Name x p) (e :: es) [] pos) ρ J R := .mk fun W σ Q E X k => by
  refine e_at (pe_callB (r := cR A.X (.builtin id)) cR_ok hg hm hv pa_sem hn hdb he hpl) ?_
  show tA A.X (e :: es) σ W.H fun vs H1 => cR A.X (.builtin id) vs H1 Q
  exact h W σ _ E X fun rs vs W1 h1 s1 o1 => h1 W1 σ vs Q (E.up s1) o1 (k.from s1)
theorem we_callTy {x : Str} {T : String} {p : Pos} (hm : A.X.mg x = none) (hv : bootBuiltins x = some (.type T)) (h : Wa A (e :: es) ρ J fun rs => Cd A (.type T) ρ J rs R) (hg : Gl A.X x := by rfl) (hn : x ≠ "__name__" := by decide) (hdb : (x == ("__debug__" : Str)) = false := by decide)
    (he : starEach (e :: es) A.X.env = (false, eval e A.X.env) :: starEach es A.X.env := by rfl) (hpl : (backTo pos (starEach es A.X.env)).any (·.1) = false := by rfl) : We A (.Call (.Name x p) (e :: es) [] pos) ρ J R := .mk fun W σ Q E X k => by
  refine e_at (pe_callTy (r := cR A.X (.type T)) cR_ok hg hm hv pa_sem hn hdb he hpl) ?_
  show tA A.X (e :: es) σ W.H fun vs H1 => cR A.X (.type T) vs H1 Q
  exact h W σ _ E X fun rs vs W1 h1 s1 o1 => h1 W1 σ vs Q (E.up s1) o1 (k.from s1)
end
end DL

namespace DL
open PySem PySem.Spec PyProof.Rows L2
/-! ### operations -/
abbrev dI (i : Int) : Sl := .dat (.int i)
abbrev dS (z : Str) : Sl := .dat (.str z)
abbrev dB (b : Bool) : Sl := .dat (.bool b)
abbrev dN : Sl := .dat .none
abbrev dT (ds : List PyData) : Sl := .dat (.tuple ds)
abbrev dL (ds : List PyData) : Sl := .dat (.list ds)
section
variable {A : Act} {ρ : List Sl} {J : Res} {R : Sl → Prop}
theorem od_val {f : Value → Value → Sem Value} {r1 r2 : Sl} (r : R2) (ho : OpR A.X f r)
    (h : ∀ (W : Wd) (σ : St) (v1 v2 : V) (Q : VK), EnvA A J W σ ρ → RtA A J W σ ρ v1 r1 → RtA A J W σ ρ v2 r2 → Wk A ρ J R W σ Q → r v1 v2 W.H Q) : Od A f ρ J r1 r2 R := .mk fun W σ v1 v2 Q E o1 o2 k => o_at ho (h W σ v1 v2 Q E o1 o2 k)
theorem od_I {f : Value → Value → Sem Value} {g : Int → Int → V} {d : Int → Int → PyData} {i j : Int} (ho : OpR A.X f (rI0 g)) (hd : ∀ i j B, Dp A.X.K B (g i j) (d i j)) (h : R (.dat (d i j))) : Od A f ρ J (dI i) (dI j) R :=
  od_val _ ho fun W σ v1 v2 Q E o1 o2 k => ⟨i, j, dp_int o1.1, dp_int o2.1, k.now E h (RtA.dat (hd i j W.B))⟩
theorem od_C {f : Value → Value → Sem Value} {C : Int → Int → Prop} {g : Int → Int → V} {d : Int → Int → PyData} {i j : Int} (ho : OpR A.X f (rI C g)) (hd : ∀ i j B, Dp A.X.K B (g i j) (d i j)) (hc : C i j) (h : R (.dat (d i j))) : Od A f ρ J (dI i) (dI j) R :=
  od_val _ ho fun W σ v1 v2 Q E o1 o2 k => ⟨i, j, dp_int o1.1, dp_int o2.1, hc, k.now E h (RtA.dat (hd i j W.B))⟩
theorem od_add {i j : Int} (h : R (dI (i + j))) : Od A (binaryOp .Add) ρ J (dI i) (dI j) R := od_I (d := fun i j => .int (i + j)) op_add (fun _ _ _ => .int _) h
theorem od_sub {i j : Int} (h : R (dI (i - j))) : Od A (binaryOp .Sub) ρ J (dI i) (dI j) R := od_I (d := fun i j => .int (i - j)) op_sub (fun _ _ _ => .int _) h
theorem od_mul {i j : Int} (h : R (dI (i * j))) (hc : CMul i j := by first | exact .inr ⟨by decide, by decide⟩ | exact .inl ⟨by decide, by decide⟩ | (unfold CMul; omega)) : Od A (binaryOp .Mult) ρ J (dI i) (dI j) R := od_C (d := fun i j => .int (i * j)) op_mul (fun _ _ _ => .int _) hc h
theorem od_mulW {i j : Int} (hc : CMulW i j) (h : R (dI (i * j))) : Od A (binaryOp .Mult) ρ J (dI i) (dI j) R := od_C (d := fun i j => .int (i * j)) op_mulW (fun _ _ _ => .int _) hc h
theorem od_fdiv {i j : Int} (h : R (dI (i / j))) (hc : CDiv i j := by first | exact ⟨by decide, by decide⟩ | exact ⟨by omega, by omega⟩) : Od A (binaryOp .FloorDiv) ρ J (dI i) (dI j) R := od_C (d := fun i j => .int (i / j)) op_fdiv (fun _ _ _ => .int _) hc h
theorem od_mod {i j : Int} (h : R (dI (i % j))) (hc : 0 < j := by first | decide | omega) : Od A (binaryOp .Mod) ρ J (dI i) (dI j) R := od_C (d := fun i j => .int (i % j)) op_mod (fun _ _ _ => .int _) hc h
theorem od_pow {i j : Int} (h : R (dI (i ^ j.toNat))) (hc : CPow i j := by exact ⟨by decide, by decide, by decide⟩) : Od A (binaryOp .Pow) ρ J (dI i) (dI j) R := od_C (d := fun i j => .int (i ^ j.toNat)) op_pow (fun _ _ _ => .int _) hc h
theorem od_shl {i j : Int} (h : R (dI (i * 2 ^ j.toNat))) (hc : CPow i j) : Od A (binaryOp .LShift) ρ J (dI i) (dI j) R := od_C (d := fun i j => .int (i * 2 ^ j.toNat)) op_shl (fun _ _ _ => .int _) hc h
theorem od_lt {i j : Int} (h : R (dB (decide (i < j)))) : Od A (compareOp .Lt) ρ J (dI i) (dI j) R := od_I (d := fun i j => .bool (decide (i < j))) op_lt (fun _ _ _ => .bl _) h
theorem od_le {i j : Int} (h : R (dB (decide (i ≤ j)))) : Od A (compareOp .LtE) ρ J (dI i) (dI j) R := od_I (d := fun i j => .bool (decide (i ≤ j))) op_le (fun _ _ _ => .bl _) h
theorem od_gt {i j : Int} (h : R (dB (decide (j < i)))) : Od A (compareOp .Gt) ρ J (dI i) (dI j) R := od_I (d := fun i j => .bool (decide (j < i))) op_gt (fun _ _ _ => .bl _) h
theorem od_ge {i j : Int} (h : R (dB (decide (j ≤ i)))) : Od A (compareOp .GtE) ρ J (dI i) (dI j) R := od_I (d := fun i j => .bool (decide (j ≤ i))) op_ge (fun _ _ _ => .bl _) h
theorem od_eqI {i j : Int} (h : R (dB (decide (i = j)))) : Od A (compareOp .Eq) ρ J (dI i) (dI j) R := od_val _ op_eq fun W σ v1 v2 Q E o1 o2 k => by
  rw [dp_int o1.1, dp_int o2.1]
  refine ⟨rfl, ?_⟩
  have e : decide (V.int i = V.int j) = decide (i = j) := by
    by_cases c : i = j
    · subst c; simp
    · have c' : ¬ V.int i = V.int j := fun q => c (V.int.inj q)
      rw [decide_eq_false c, decide_eq_false c']
  rw [e]
  exact k.now E h RtA.bl
theorem od_neI {i j : Int} (h : R (dB (!decide (i = j)))) : Od A (compareOp .NotEq) ρ J (dI i) (dI j) R := od_val _ op_ne fun W σ v1 v2 Q E o1 o2 k => by
  rw [dp_int o1.1, dp_int o2.1]
  refine ⟨rfl, ?_⟩
  have e : decide (V.int i = V.int j) = decide (i = j) := by
    by_cases c : i = j
    · subst c; simp
    · have c' : ¬ V.int i = V.int j := fun q => c (V.int.inj q)
      rw [decide_eq_false c, decide_eq_false c']
  rw [e]
  exact k.now E h RtA.bl
theorem od_eqS {i j : Str} (h : R (dB (decide (i = j)))) : Od A (compareOp .Eq) ρ J (dS i) (dS j) R := od_val _ op_eq fun W σ v1 v2 Q E o1 o2 k => by
  rw [dp_str o1.1, dp_str o2.1]
  refine ⟨rfl, ?_⟩
  have e : decide (V.str i = V.str j) = decide (i = j) := by
    by_cases c : i = j
    · subst c; simp
    · have c' : ¬ V.str i = V.str j := fun q => c (V.str.inj q)
      rw [decide_eq_false c, decide_eq_false c']
  rw [e]
  exact k.now E h RtA.bl
theorem od_neS {i j : Str} (h : R (dB (!decide (i = j)))) : Od A (compareOp .NotEq) ρ J (dS i) (dS j) R := od_val _ op_ne fun W σ v1 v2 Q E o1 o2 k => by
  rw [dp_str o1.1, dp_str o2.1]
  refine ⟨rfl, ?_⟩
  have e : decide (V.str i = V.str j) = decide (i = j) := by
    by_cases c : i = j
    · subst c; simp
    · have c' : ¬ V.str i = V.str j := fun q => c (V.str.inj q)
      rw [decide_eq_false c, decide_eq_false c']
  rw [e]
  exact k.now E h RtA.bl
/-- == of data -/
theorem od_eqD {r1 r2 : Sl} {d e : PyData} (hu : A.X.A.units + 64 < cLine) (h1 : dOf r1 = some d) (h2 : dOf r2 = some e) (s1 : SeqAt.shaped d = true) (s2 : SeqAt.shaped e = true) (h : R (dB (PyData.eqv d e))) : Od A (compareOp .Eq) ρ J r1 r2 R :=
  od_val _ (op_eqD hu) fun W σ v1 v2 Q E o1 o2 k => ⟨d, e, o1.dp h1 E.ok, o2.dp h2 E.ok, s1, s2, k.now E h RtA.bl⟩
theorem od_neD {r1 r2 : Sl} {d e : PyData} (hu : A.X.A.units + 64 < cLine) (h1 : dOf r1 = some d) (h2 : dOf r2 = some e) (s1 : SeqAt.shaped d = true) (s2 : SeqAt.shaped e = true) (h : R (dB (!PyData.eqv d e))) : Od A (compareOp .NotEq) ρ J r1 r2 R :=
  od_val _ (op_neD hu) fun W σ v1 v2 Q E o1 o2 k => ⟨d, e, o1.dp h1 E.ok, o2.dp h2 E.ok, s1, s2, k.now E h RtA.bl⟩
theorem od_inD {r1 r2 : Sl} {d : PyData} {ds : List PyData} (hu : A.X.A.units + 65 < cLine) (h1 : dOf r1 = some d) (h2 : dOf r2 = some (.list ds)) (s1 : SeqAt.shaped d = true) (s2 : SeqAt.shaped (.list ds) = true) (h : R (dB (ds.any fun z => PyData.eqv z d))) : Od A (compareOp .In) ρ J r1 r2 R :=
  od_val _ (op_inD hu) fun W σ v1 v2 Q E o1 o2 k => ⟨d, ds, o1.dp h1 E.ok, o2.dp h2 E.ok, s1, s2, k.now E h RtA.bl⟩
theorem od_niD {r1 r2 : Sl} {d : PyData} {ds : List PyData} (hu : A.X.A.units + 65 < cLine) (h1 : dOf r1 = some d) (h2 : dOf r2 = some (.list ds)) (s1 : SeqAt.shaped d = true) (s2 : SeqAt.shaped (.list ds) = true) (h : R (dB (!ds.any fun z => PyData.eqv z d))) : Od A (compareOp .NotIn) ρ J r1 r2 R :=
  od_val _ (op_notInD hu) fun W σ v1 v2 Q E o1 o2 k => ⟨d, ds, o1.dp h1 E.ok, o2.dp h2 E.ok, s1, s2, k.now E h RtA.bl⟩
/-- flat data -/
def vOf : PyData → Option V
  | .none => some .non
  | .bool b => some (.bl b)
  | .int i => some (.int i)
  | .str z => some (.str z)
  | _ => none
theorem vOf_flat {d : PyData} {v : V} (h : vOf d = some v) : flatV v = true := by
  cases d <;> first | (cases (Option.some.inj h); rfl) | cases h
theorem vOf_dp {K : PySem.W.Frag} {H : Hp} {d : PyData} {v u : V} (h : vOf d = some v) (q : Dp K H u d) : u = v := by
  cases d <;> first | (cases (Option.some.inj h); cases q; rfl) | cases h
theorem vOf_eqv {d e : PyData} {v u : V} (h : vOf d = some v) (q : vOf e = some u) : eqV v u = PyData.eqv d e := by
  cases d <;> first | (cases (Option.some.inj h); cases e <;> first | (cases (Option.some.inj q); simp [eqV, PyData.eqv]) | cases q) | cases h
def flatD (d : PyData) : Bool := (vOf d).isSome
theorem flatD_of {d : PyData} (h : flatD d = true) : ∃ v, vOf d = some v := Option.isSome_iff_exists.mp h
theorem flat_all {K : PySem.W.Frag} {H : Hp} {d : PyData} {v : V} (hv : vOf d = some v) : ∀ {xs : List V} {ds : List PyData}, DpAll K H xs ds → ds.all flatD = true → xs.all flatV = true ∧ inV v xs = ds.any fun z => PyData.eqv z d
  | [], [], .nil, _ => ⟨rfl, rfl⟩
  | x :: xs, e :: ds, .cons h t, ha => by
    obtain ⟨a1, a2⟩ := Bool.and_eq_true_iff.mp (show (flatD e && ds.all flatD) = true from ha)
    obtain ⟨u, hu⟩ := flatD_of a1
    obtain ⟨i1, i2⟩ := flat_all hv t a2
    have ex := vOf_dp hu h
    subst ex
    refine ⟨?_, ?_⟩
    · show (flatV x && xs.all flatV) = true
      rw [vOf_flat hu, i1]; rfl
    · show (eqV x v || inV v xs) = (PyData.eqv e d || ds.any _)
      rw [vOf_eqv hu hv, i2]
theorem od_inF {r1 r2 : Sl} {d : PyData} {ds : List PyData} (h1 : dOf r1 = some d) (h2 : dOf r2 = some (.list ds) ∨ dOf r2 = some (.tuple ds)) (f1 : flatD d = true) (f2 : ds.all flatD = true) (h : R (dB (ds.any fun z => PyData.eqv z d))) : Od A (compareOp .In) ρ J r1 r2 R :=
  od_val _ op_in_seq fun W σ v1 v2 Q E o1 o2 k => by
    obtain ⟨v, hv⟩ := flatD_of f1
    have e1 := vOf_dp hv (o1.dp h1 E.ok)
    subst e1
    rcases h2 with h2 | h2
    · obtain ⟨p, xs, rfl, q1, q2⟩ := dp_lst (o2.dp h2 E.ok)
      obtain ⟨i1, i2⟩ := flat_all hv q2 f2
      refine ⟨p, xs, rfl, .inl q1, vOf_flat hv, i1, ?_⟩
      show Q (.bl (inV v1 xs)) W.H
      rw [i2]
      exact k.now E h RtA.bl
    · obtain ⟨p, xs, rfl, q1, q2⟩ := dp_tup (o2.dp h2 E.ok)
      obtain ⟨i1, i2⟩ := flat_all hv q2 f2
      refine ⟨p, xs, rfl, .inr q1, vOf_flat hv, i1, ?_⟩
      show Q (.bl (inV v1 xs)) W.H
      rw [i2]
      exact k.now E h RtA.bl
theorem od_niF {r1 r2 : Sl} {d : PyData} {ds : List PyData} (h1 : dOf r1 = some d) (h2 : dOf r2 = some (.list ds) ∨ dOf r2 = some (.tuple ds)) (f1 : flatD d = true) (f2 : ds.all flatD = true) (h : R (dB (!ds.any fun z => PyData.eqv z d))) : Od A (compareOp .NotIn) ρ J r1 r2 R :=
  od_val _ op_notIn_seq fun W σ v1 v2 Q E o1 o2 k => by
    obtain ⟨v, hv⟩ := flatD_of f1
    have e1 := vOf_dp hv (o1.dp h1 E.ok)
    subst e1
    rcases h2 with h2 | h2
    · obtain ⟨p, xs, rfl, q1, q2⟩ := dp_lst (o2.dp h2 E.ok)
      obtain ⟨i1, i2⟩ := flat_all hv q2 f2
      refine ⟨p, xs, rfl, .inl q1, vOf_flat hv, i1, ?_⟩
      show Q (.bl (!inV v1 xs)) W.H
      rw [i2]
      exact k.now E h RtA.bl
    · obtain ⟨p, xs, rfl, q1, q2⟩ := dp_tup (o2.dp h2 E.ok)
      obtain ⟨i1, i2⟩ := flat_all hv q2 f2
      refine ⟨p, xs, rfl, .inr q1, vOf_flat hv, i1, ?_⟩
      show Q (.bl (!inV v1 xs)) W.H
      rw [i2]
      exact k.now E h RtA.bl
def nonD : PyData → Bool
  | .none => true
  | _ => false
theorem nonD_of {K : PySem.W.Frag} {H : Hp} {v : V} {d : PyData} (q : Dp K H v d) : decide (v = V.non) = nonD d := by
  cases q <;> rfl
theorem od_isN {d : PyData} (h : R (dB (nonD d))) : Od A (compareOp .Is) ρ J (.dat d) dN R := od_val _ op_isN fun W σ v1 v2 Q E o1 o2 k => by
  refine ⟨dp_non o2.1, ?_⟩
  rw [nonD_of o1.1]
  exact k.now E h RtA.bl
theorem od_isnotN {d : PyData} (h : R (dB (!nonD d))) : Od A (compareOp .IsNot) ρ J (.dat d) dN R := od_val _ op_notN fun W σ v1 v2 Q E o1 o2 k => by
  refine ⟨dp_non o2.1, ?_⟩
  rw [nonD_of o1.1]
  exact k.now E h RtA.bl
theorem od_addS {i j : Str} (hl : i.length + j.length ≤ 1000000) (h : R (dS (i ++ j))) : Od A (binaryOp .Add) ρ J (dS i) (dS j) R := od_val _ op_add_str fun W σ v1 v2 Q E o1 o2 k =>
  ⟨i, j, dp_str o1.1, dp_str o2.1, Nat.le_trans hl (by decide), k.now E h RtA.str⟩
theorem od_addT {ds es : List PyData} (hl : ds.length + es.length ≤ 100000) (h : R (dT (ds ++ es))) : Od A (binaryOp .Add) ρ J (dT ds) (dT es) R := od_val _ op_catA fun W σ v1 v2 Q E o1 o2 k => by
  obtain ⟨a, xs, rfl, q1, q1', p1⟩ := o1.tup E.ok
  obtain ⟨b, ys, rfl, q2, q2', p2⟩ := o2.tup E.ok
  have l1 := DpAll.len p1
  have l2 := DpAll.len p2
  refine ⟨a, b, xs, ys, rfl, rfl, q1, q2, by rw [l1, l2]; exact Nat.le_trans hl (by decide), fun e => ?_, fun _ e => ?_, fun _ _ => k.newT E (DpAll.app p1 p2) h⟩
  · subst e
    cases p1
    exact k.now E h (RtA.dat (.tup q2' p2))
  · subst e
    cases p2
    rw [List.append_nil] at h
    exact k.now E h (RtA.dat (.tup q1' p1))
/-- list + list, wherever they stand -/
def rCatL (K : PySem.W.Frag) : R2 := fun x y H Q => ∃ l b xs zs, x = .ref l ∧ y = .ref b ∧ SqL K H l xs ∧ SqL K H b zs ∧ xs.length + zs.length ≤ sizeLine ∧ ∀ p, H p = none → Q (.ref p) (upd H p (.lst (xs ++ zs)))
theorem op_catL {X : Cx} : OpR X (binaryOp .Add) (rCatL X.K) := by
  intro pins s σ H x y v u Q I rx ry h
  obtain ⟨l, b, xs, zs, rfl, rfl, hH, hB, hz, q⟩ := h
  cases rx
  cases ry
  obtain ⟨its, r, pl, _⟩ := I.list hH
  obtain ⟨its2, r2, pl2, _⟩ := I.list hB
  obtain ⟨⟨cls, dd, data, sl⟩, ho, hc, n, hd⟩ := pl.isList
  obtain ⟨⟨cls2, dd2, data2, sl2⟩, ho2, hc2, n2, hd2⟩ := pl2.isList
  simp only at hc hd hc2 hd2
  subst hc hd hc2 hd2
  have ea : its.toArray ++ its2.toArray = (its ++ its2).toArray := by simp
  have e1 := r.length
  have e2 := r2.length
  refine concat_meets ⟨_, ho, rfl⟩ ⟨_, ho2, rfl⟩ noFill_list_add seq_list_add PySem.F.slot_list_add PySem.F.entry_list_add (PySem.F.args_list_add_2 _ _) (list_addW l b its.toArray its2.toArray n n2 dd dd2 sl sl2 (by simp only [List.size_toArray]; omega)) ⟨ho, ho2, ?_⟩
  rw [ea]
  exact ⟨.ref _, _, I.lnew (t' := s.toks) (r.append r2) (by rw [List.length_append]; omega), rfl, q _ I.fresh⟩
theorem od_addL {r1 r2 : Sl} {ds es : List PyData} (h1 : dOf r1 = some (.list ds)) (h2 : dOf r2 = some (.list es)) (hl : ds.length + es.length ≤ 100000) (h : R (.own (ds ++ es))) : Od A (binaryOp .Add) ρ J r1 r2 R := od_val _ op_catL fun W σ v1 v2 Q E o1 o2 k => by
  obtain ⟨a, xs, rfl, q1, p1⟩ := o1.lst h1 E.ok
  obtain ⟨b, ys, rfl, q2, p2⟩ := o2.lst h2 E.ok
  exact ⟨a, b, xs, ys, rfl, rfl, q1, q2, by rw [DpAll.len p1, DpAll.len p2]; exact Nat.le_trans hl (by decide), k.newL E (DpAll.app p1 p2) h⟩
theorem ud_neg {i : Int} (h : R (dI (-i))) : Ud A (unaryOp .USub) ρ J (dI i) R := .mk fun W σ v1 Q E o1 k => u_at un_neg ⟨i, dp_int o1.1, k.now E h RtA.int⟩
/-! ### builtins -/
theorem cd_int {i : Int} (h : R (dI i)) : Cd A (.type "int") ρ J [dI i] R := .mk fun W σ vs Q E o k => by
  cases o with
  | cons o1 on =>
    cases on
    exact c_at call_int1 (.inl ⟨i, by rw [dp_int o1.1], k.now E h RtA.int⟩)
theorem cd_strI {i : Int} (hi : i.natAbs.log2 < 1920) (h : R (dS (toString i))) : Cd A (.type "str") ρ J [dI i] R := .mk fun W σ vs Q E o k => by
  cases o with
  | cons o1 on =>
    cases on
    exact c_at call_str_int ⟨i, by rw [dp_int o1.1], hi, k.now E h RtA.str⟩
def dLen : PyData → Option Nat
  | .list ds => some ds.length
  | .tuple ds => some ds.length
  | .str z => some z.length
  | _ => none
theorem cd_len {r : Sl} {d : PyData} {n : Nat} (hd : dOf r = some d) (hn : dLen d = some n) (hz : n ≤ 1000000) (h : R (dI n)) : Cd A (.builtin "len") ρ J [r] R := .mk fun W σ vs Q E o k => by
  cases o with
  | cons o1 on =>
    cases on
    rename_i v
    have q := o1.dp hd E.ok
    refine c_at call_len ⟨v, n, rfl, ?_, k.now E h RtA.int⟩
    cases d with
    | list ds =>
      have e := Option.some.inj hn
      obtain ⟨p, xs, rfl, q1, q2⟩ := dp_lst q
      exact .inl ⟨xs, q1, by rw [← e, DpAll.len q2]⟩
    | tuple ds =>
      have e := Option.some.inj hn
      obtain ⟨p, xs, rfl, q1, q2⟩ := dp_tup q
      exact .inr ⟨xs, q1, by rw [← e, DpAll.len q2]⟩
    | str z =>
      have e := Option.some.inj hn
      rw [dp_str q]
      exact ⟨by rw [e]; exact Nat.le_trans hz (by decide), e.symm⟩
    | _ => cases hn
theorem cd_min2 {i j : Int} (hc : A.X.calm = true) (h : R (dI (if j < i then j else i))) : Cd A (.builtin "min") ρ J [dI i, dI j] R := .mk fun W σ vs Q E o k => by
  cases o with
  | cons o1 o2 =>
    cases o2 with
    | cons o2 on =>
      cases on
      exact c_at (call_min2 hc) ⟨i, j, by rw [dp_int o1.1, dp_int o2.1], k.now E h RtA.int⟩
theorem cd_max2 {i j : Int} (hc : A.X.calm = true) (h : R (dI (if j > i then j else i))) : Cd A (.builtin "max") ρ J [dI i, dI j] R := .mk fun W σ vs Q E o k => by
  cases o with
  | cons o1 o2 =>
    cases o2 with
    | cons o2 on =>
      cases on
      exact c_at (call_max2 hc) ⟨i, j, by rw [dp_int o1.1, dp_int o2.1], k.now E h RtA.int⟩
theorem cd_tup {r : Sl} {ds : List PyData} (hd : dOf r = some (.list ds)) (h : R (dT ds)) : Cd A (.type "tuple") ρ J [r] R := .mk fun W σ vs Q E o k => by
  cases o with
  | cons o1 on =>
    cases on
    obtain ⟨a, xs, rfl, q1, p1⟩ := o1.lst hd E.ok
    exact c_at call_tuple_of ⟨a, xs, rfl, .inl ⟨q1, k.newT E p1 h⟩⟩
theorem cd_tupT {ds : List PyData} (h : R (dT ds)) : Cd A (.type "tuple") ρ J [dT ds] R := .mk fun W σ vs Q E o k => by
  cases o with
  | cons o1 on =>
    cases on
    obtain ⟨a, xs, rfl, q1, q2, p1⟩ := o1.tup E.ok
    exact c_at call_tuple_of ⟨a, xs, rfl, .inr ⟨q1, k.now E h (RtA.dat (.tup q2 p1))⟩⟩
theorem cd_lst {r : Sl} {ds : List PyData} (hd : dOf r = some (.list ds)) (h : R (.own ds)) : Cd A (.type "list") ρ J [r] R := .mk fun W σ vs Q E o k => by
  cases o with
  | cons o1 on =>
    cases on
    obtain ⟨a, xs, rfl, q1, p1⟩ := o1.lst hd E.ok
    exact c_at call_list_of ⟨a, xs, rfl, .inl q1, k.newL E p1 h⟩
theorem cd_lstT {ds : List PyData} (h : R (.own ds)) : Cd A (.type "list") ρ J [dT ds] R := .mk fun W σ vs Q E o k => by
  cases o with
  | cons o1 on =>
    cases on
    obtain ⟨a, xs, rfl, q1, q2, p1⟩ := o1.tup E.ok
    exact c_at call_list_of ⟨a, xs, rfl, .inr q1, k.newL E p1 h⟩
end
end DL

namespace DL
open PySem PySem.Spec PyProof.Rows L2
/-! ### statements -/
structure Pst where
  nx : List Sl → Res → Prop
  rt : Sl → Res → Prop
  bk : List Sl → Res → Prop := fun _ _ => False
  ct : List Sl → Res → Prop := fun _ _ => False
abbrev SatA (A : Act) (J : Res) (W : Wd) : Prop := Sat A.X.K A.M A.W0 J W
structure Dk (A : Act) (P : Pst) (B0 : Hp) (D : Ends) : Prop where
  nx : ∀ (ρ : List Sl) (J : Res) (W : Wd) (σ : St), P.nx ρ J → Same B0 W.B → EnvA A J W σ ρ → D.nx σ W.H
  rt : ∀ (r : Sl) (J : Res) (W : Wd) (v : V), P.rt r J → SatA A J W → VOk A.X.K A.W0 W v r → D.rt v W.H
  bk : ∀ (ρ : List Sl) (J : Res) (W : Wd) (σ : St), P.bk ρ J → Same B0 W.B → EnvA A J W σ ρ → D.bk σ W.H
  ct : ∀ (ρ : List Sl) (J : Res) (W : Wd) (σ : St), P.ct ρ J → Same B0 W.B → EnvA A J W σ ρ → D.ct σ W.H
def WsT (A : Act) (st : Stmt) (ρ : List Sl) (J : Res) (nx : List Sl → Res → Prop) (rt : Sl → Res → Prop) (bk ct : List Sl → Res → Prop) : Prop := ∀ (W : Wd) (σ : St) (D : Ends), EnvA A J W σ ρ → Exits A → Dk A ⟨nx, rt, bk, ct⟩ W.B D → tS A.X st D σ W.H
structure Ws (A : Act) (st : Stmt) (ρ : List Sl) (J : Res) (nx : List Sl → Res → Prop) (rt : Sl → Res → Prop) (bk ct : List Sl → Res → Prop) : Prop where
  run : WsT A st ρ J nx rt bk ct
instance (A : Act) (st : Stmt) (ρ : List Sl) (J : Res) (nx : List Sl → Res → Prop) (rt : Sl → Res → Prop) (bk ct : List Sl → Res → Prop) : CoeFun (Ws A st ρ J nx rt bk ct) (fun _ => WsT A st ρ J nx rt bk ct) := ⟨Ws.run⟩
def WssT (A : Act) (sts : List Stmt) (ρ : List Sl) (J : Res) (nx : List Sl → Res → Prop) (rt : Sl → Res → Prop) (bk ct : List Sl → Res → Prop) : Prop := ∀ (W : Wd) (σ : St) (D : Ends), EnvA A J W σ ρ → Exits A → Dk A ⟨nx, rt, bk, ct⟩ W.B D → tSs A.X sts D σ W.H
structure Wss (A : Act) (sts : List Stmt) (ρ : List Sl) (J : Res) (nx : List Sl → Res → Prop) (rt : Sl → Res → Prop) (bk ct : List Sl → Res → Prop) : Prop where
  run : WssT A sts ρ J nx rt bk ct
instance (A : Act) (sts : List Stmt) (ρ : List Sl) (J : Res) (nx : List Sl → Res → Prop) (rt : Sl → Res → Prop) (bk ct : List Sl → Res → Prop) : CoeFun (Wss A sts ρ J nx rt bk ct) (fun _ => WssT A sts ρ J nx rt bk ct) := ⟨Wss.run⟩
def WgT (A : Act) (tg : Expr) (ρ : List Sl) (J : Res) (r : Sl) (N : List Sl → Prop) : Prop := ∀ (W : Wd) (σ : St) (v : V) (Q : St → Hp → Prop), EnvA A J W σ ρ → RtA A J W σ ρ v r → (∀ ρ' σ', N ρ' → EnvA A J W σ' ρ' → Q σ' W.H) → tG A.X tg v σ W.H Q
structure Wg (A : Act) (tg : Expr) (ρ : List Sl) (J : Res) (r : Sl) (N : List Sl → Prop) : Prop where
  run : WgT A tg ρ J r N
instance (A : Act) (tg : Expr) (ρ : List Sl) (J : Res) (r : Sl) (N : List Sl → Prop) : CoeFun (Wg A tg ρ J r N) (fun _ => WgT A tg ρ J r N) := ⟨Wg.run⟩
section
variable {A : Act} {ρ : List Sl} {J : Res} {P : Pst} {nx bk ct : List Sl → Res → Prop} {rt : Sl → Res → Prop} {st : Stmt} {rest sts : List Stmt} {e : Expr} {pos : Pos} {B0 B1 : Hp} {D : Ends}
theorem Dk.from (h : Dk A P B0 D) (s : Same B0 B1) : Dk A P B1 D := ⟨fun ρ J W σ q b => h.nx ρ J W σ q (s.trans b), h.rt, fun ρ J W σ q b => h.bk ρ J W σ q (s.trans b), fun ρ J W σ q b => h.ct ρ J W σ q (s.trans b)⟩
theorem wss_nil (h : nx ρ J) : Wss A [] ρ J nx rt bk ct := .mk fun W σ D E X k => ss_at pss_nil (k.nx ρ J W σ h (Same.refl _) E)
theorem wss_cons (h : Ws A st ρ J (fun ρ' J' => Wss A rest ρ' J' nx rt bk ct) rt bk ct) : Wss A (st :: rest) ρ J nx rt bk ct := .mk fun W σ D E X k => by
  refine ss_at (pss_cons ps_sem pss_sem) ?_
  show tS A.X st { D with nx := tSs A.X rest D } σ W.H
  refine h W σ _ E X ⟨fun ρ' J' W' σ' q b E' => ?_, k.rt, k.bk, k.ct⟩
  exact (show Wss A rest ρ' J' nx rt bk ct from q) W' σ' D E' X (k.from b)
theorem wss_one (h : Ws A st ρ J nx rt bk ct) : Wss A [st] ρ J nx rt bk ct := .mk fun W σ D E X k => ss_at (pss_one ps_sem) (h W σ D E X k)
theorem ws_pass (h : nx ρ J) : Ws A (.Pass pos) ρ J nx rt bk ct := .mk fun W σ D E X k => s_at ps_pass (k.nx ρ J W σ h (Same.refl _) E)
theorem ws_break (h : bk ρ J) : Ws A (.Break pos) ρ J nx rt bk ct := .mk fun W σ D E X k => s_at ps_break (k.bk ρ J W σ h (Same.refl _) E)
theorem ws_cont (h : ct ρ J) : Ws A (.Continue pos) ρ J nx rt bk ct := .mk fun W σ D E X k => s_at ps_continue (k.ct ρ J W σ h (Same.refl _) E)
def isBor : Sl → Bool
  | .bor _ => true
  | _ => false
theorem nbor {r : Sl} (h : isBor r = false) : ∀ ds, r ≠ .bor ds := fun ds e => by rw [e] at h; cases h
/-- name = e -/
theorem ws_set (i : Nat) {x : Str} {pos' : Pos} (h : We A e ρ J fun r => isBor r = false ∧ nx (ρ.set i r) J) (hN : A.X.N.Nodup) (hi : A.X.N[i]? = some x := by rfl) (hx : Loc A.X.env.scope x := by first | exact Or.inl rfl | exact Or.inr rfl)
    (hs : swapsWith e (some (.Name x pos')) pos.line A.X.env = pure false := by rfl) (hf : A.X.fn x = true ∨ A.X.env.scope.names.lookup x = some .local := by first | exact .inl rfl | exact .inr rfl) : Ws A (.Assign [.Name x pos'] e pos) ρ J nx rt bk ct := .mk fun W σ D E X k => by
  refine s_at (ps_set hN hi hx pe_sem hs hf) ?_
  show tE A.X e σ W.H fun x H1 => D.nx (σ.set i (some x)) H1
  refine h W σ _ E X fun r v W1 h1 s1 o1 => ?_
  exact k.nx _ J W1 _ h1.2 s1.b ((E.up s1).set i o1 (nbor h1.1))
/-- target = e -/
theorem ws_asg {tg : Expr} (h : We A e ρ J fun r => Wg A tg ρ J r fun ρ' => nx ρ' J) (hs : swapsWithSole [tg] e pos.line A.X.env = pure false := by rfl) (hw : swappedStores [tg] e A.X.env = pure none := by rfl)
    (h1 : (assignEach [tg] A.X.env).map (·.2) = [assign tg A.X.env] := by rfl) : Ws A (.Assign [tg] e pos) ρ J nx rt bk ct := .mk fun W σ D E X k => by
  refine s_at (ps_asg pe_sem pg_sem hs hw h1) ?_
  show tE A.X e σ W.H fun x H1 => tG A.X tg x σ H1 D.nx
  refine h W σ _ E X fun r v W1 h1 s1 o1 => h1 W1 σ v _ (E.up s1) o1 fun ρ' σ' q E' => k.nx ρ' J W1 σ' q s1.b E'
theorem ws_expr (h : We A e ρ J fun _ => nx ρ J) (hs : swapsWith e none pos.line A.X.env = pure false := by rfl) : Ws A (.Expr e pos) ρ J nx rt bk ct := .mk fun W σ D E X k => by
  refine s_at (ps_expr pe_sem hs) ?_
  show tE A.X e σ W.H fun _ H1 => D.nx σ H1
  exact h W σ _ E X fun r v W1 h1 s1 o1 => k.nx ρ J W1 σ h1 s1.b (E.up s1)
/-- what is handed out lasts -/
def frz : Sl → Sl
  | .own ds => .dat (.list ds)
  | .bor ds => .dat (.list ds)
  | r => r
theorem frz_rt {W : Wd} {σ : St} {v : V} {r : Sl} (E : EnvA A J W σ ρ) (o : RtA A J W σ ρ v r) : ∃ W', W'.H = W.H ∧ SatA A J W' ∧ VOk A.X.K A.W0 W' v (frz r) := by
  have key : ∀ ds, isMine r = true → (∃ p vs, v = .ref p ∧ ¬ Nt A.W0.H p ∧ W.B p = none ∧ W.H p = some (.lst vs) ∧ DpAll A.X.K W.B vs ds) → ∃ W', W'.H = W.H ∧ SatA A J W' ∧ VOk A.X.K A.W0 W' v (.dat (.list ds)) := fun ds hm ⟨p, vs, ev, h0, hB, hH, hd⟩ => by
    have nf := o.2.1 hm p ev
    obtain ⟨s1, s2⟩ := frz_ok (o := .lst vs) E.ok hB hH
    refine ⟨⟨upd W.B p (.lst vs), W.H⟩, rfl, ⟨s2, frz_st E.ok E.st h0 hB hH, J.mono _ _ _ _ s1 (fun a o fa e => e) (fun _ _ e => e) (fun _ t => t) E.res, fun a fa => ⟨?_, (E.sep a fa).2⟩⟩, ?_⟩
    · show upd _ _ _ _ = _
      rw [upd_ne (fun z => nf (by rw [← z]; exact fa))]
      exact (E.sep a fa).1
    · rw [ev]
      exact .lst (SqL.of upd_same) (DpAll.up s1 hd)
  cases r with
  | own ds => exact key ds rfl o.1
  | bor ds => exact key ds rfl o.1
  | un => exact ⟨W, rfl, E.sat, True.intro⟩
  | dat d => exact ⟨W, rfl, E.sat, o.1⟩
  | raw d => exact ⟨W, rfl, E.sat, o.1⟩
  | fct d => exact ⟨W, rfl, E.sat, o.1⟩
theorem ws_ret (h : We A e ρ J fun r => rt (frz r) J) : Ws A (.Return (some e) pos) ρ J nx rt bk ct := .mk fun W σ D E X k => by
  refine s_at (ps_ret pe_sem) ?_
  show tE A.X e σ W.H D.rt
  refine h W σ _ E X fun r v W1 h1 s1 o1 => ?_
  obtain ⟨W2, e2, S, o2⟩ := frz_rt (E.up s1) o1
  rw [← e2]
  exact k.rt _ J W2 v h1 S o2
theorem ws_retN (h : rt dN J) : Ws A (.Return none pos) ρ J nx rt bk ct := .mk fun W σ D E X k => s_at ps_retN (k.rt _ J W .non h E.sat .non)
theorem ws_if {c : Expr} {a b : List Stmt} (h : Wt A c ρ J fun k => if k = true then Wss A a ρ J nx rt bk ct else Wss A b ρ J nx rt bk ct) : Ws A (.If c a b pos) ρ J nx rt bk ct := .mk fun W σ D E X k => by
  refine s_at (ps_if pt_sem pss_sem pss_sem) ?_
  show tT A.X c σ W.H fun b' H1 => if b' = true then tSs A.X a D σ H1 else tSs A.X b D σ H1
  refine h W σ _ E X fun b' W1 h1 s1 => ?_
  cases b' with
  | true => exact iteT ((show Wss A a ρ J nx rt bk ct from h1) W1 σ D (E.up s1) X (k.from s1.b))
  | false => exact iteF ((show Wss A b ρ J nx rt bk ct from h1) W1 σ D (E.up s1) X (k.from s1.b))
/-- from here on a list of one's own is a datum -/
theorem wss_frz (i : Nat) {ds : List PyData} (h : Wss A sts (ρ.set i (.dat (.list ds))) J nx rt bk ct) (hr : ρ[i]? = some (.own ds) := by rfl) : Wss A sts ρ J nx rt bk ct := .mk fun W σ D E X k => by
  obtain ⟨p, vs, hB, hH, E'⟩ := E.freeze hr
  exact h ⟨upd W.B p (.lst vs), W.H⟩ σ D E' X (k.from (frz_ok E.ok hB hH).1)
theorem ws_frz (i : Nat) {ds : List PyData} (h : Ws A st (ρ.set i (.dat (.list ds))) J nx rt bk ct) (hr : ρ[i]? = some (.own ds) := by rfl) : Ws A st ρ J nx rt bk ct := .mk fun W σ D E X k => by
  obtain ⟨p, vs, hB, hH, E'⟩ := E.freeze hr
  exact h ⟨upd W.B p (.lst vs), W.H⟩ σ D E' X (k.from (frz_ok E.ok hB hH).1)
/-- x.append(e), x one's own -/
theorem ws_append (i : Nat) {x : Str} {ds : List PyData} {p apos cpos : Pos} (h : We A e ρ J fun r => ∃ d, r = .dat d ∧ ds.length < 1000000 ∧ nx (ρ.set i (.own (ds ++ [d]))) J) (hr : ρ[i]? = some (.own ds) := by rfl) (hN : A.X.N[i]? = some x := by rfl) (hv : Vis A.X.env.scope x := by first | exact Or.inl rfl | exact Or.inr (Or.inl rfl) | exact Or.inr (Or.inr rfl))
    (hd : (x == ("__debug__" : Str)) = false := by decide) (hcd : (x == ("__classdict__" : Str)) = false := by decide) (hs : swapsWith (.Call (.Attribute (.Name x p) "append" apos) [e] [] cpos) none pos.line A.X.env = pure false := by rfl)
    (hst : starEach [e] A.X.env = (false, eval e A.X.env) :: starEach [] A.X.env := by rfl)
    (hpe : ∀ (to : TE) (t : TA), PE A.X (.Name x p) to → PA A.X [e] t → PE A.X (.Call (.Attribute (.Name x p) "append" apos) [e] [] cpos) (tBM A.X.K "list" (rAppend) to t) := by exact fun to t ho ha => pe_bm PySem.F.plainAttrs_list PySem.F.slot_list_append PySem.F.type_list_append mt_append ho ha) :
    Ws A (.Expr (.Call (.Attribute (.Name x p) "append" apos) [e] [] cpos) pos) ρ J nx rt bk ct := .mk fun W σ D E X k => by
  obtain ⟨v, ha, q, vs, e2, h0, hB, hH, hda⟩ := E.sl i _ hr
  subst e2
  refine s_at (ps_expr (hpe _ _ (pe_var hN hv hd hcd) (pa_cons pe_sem pa_nil hst)) hs) ?_
  refine ⟨.ref q, at_some ha, .inl ⟨rfl, _, SqL.of hH⟩, ?_⟩
  show tE A.X e σ W.H fun y H1 => rAppend (.ref q) [y] H1 fun _ H1 => D.nx σ H1
  refine h W σ _ E X fun r v W1 h1 s1 o1 => ?_
  obtain ⟨d, rfl, hl, hn⟩ := h1
  have E1 := E.up s1
  refine ⟨q, vs, v, rfl, rfl, s1.same _ _ hH, by rw [DpAll.len hda]; exact Nat.lt_of_lt_of_le hl (by decide), ?_⟩
  have hda' : DpAll A.X.K W1.B (vs ++ [v]) (ds ++ [d]) := DpAll.app (DpAll.up s1.b hda) (.cons o1.1 .nil)
  exact k.nx _ J ⟨W1.B, upd W1.H q (.lst (vs ++ [v]))⟩ σ hn s1.b (E1.mut hr ha hda')
/-! ### targets -/
theorem wg_name (i : Nat) {x : Str} {r : Sl} {N : List Sl → Prop} (h : N (ρ.set i r)) (hN : A.X.N.Nodup) (hb : isBor r = false := by rfl) (hi : A.X.N[i]? = some x := by rfl) (hx : Loc A.X.env.scope x := by first | exact Or.inl rfl | exact Or.inr rfl)
    (hf : A.X.fn x = true ∨ A.X.env.scope.names.lookup x = some .local := by first | exact .inl rfl | exact .inr rfl) : Wg A (.Name x pos) ρ J r N := .mk fun W σ v Q E o k =>
  g_at (pg_name hN hi hx hf) (show Q (σ.set i (some v)) W.H from k _ _ h (E.set i o (nbor hb)))
/-- several targets, one datum each -/
def WgsT (A : Act) (tgs : List Expr) (ρ : List Sl) (J : Res) (ds : List PyData) (N : List Sl → Prop) : Prop := ∀ (W : Wd) (σ : St) (vs : List V) (Q : St → Hp → Prop), EnvA A J W σ ρ → DpAll A.X.K W.B vs ds → (∀ ρ' σ', N ρ' → EnvA A J W σ' ρ' → Q σ' W.H) →
  ∀ (pins : List (Addr × Obj)) (s : Shared) (us : List Value), Inv A.X pins σ W.H s → Vals vs us → wpAny (model A.X.prog A.X.w) A.X.A (assignInOrder ((assignEach tgs A.X.env).map (·.2)) us) (fun _ s' => ∃ σ' H', Inv A.X pins σ' H' s' ∧ Q σ' H') A.X.xe s
structure Wgs (A : Act) (tgs : List Expr) (ρ : List Sl) (J : Res) (ds : List PyData) (N : List Sl → Prop) : Prop where
  run : WgsT A tgs ρ J ds N
instance (A : Act) (tgs : List Expr) (ρ : List Sl) (J : Res) (ds : List PyData) (N : List Sl → Prop) : CoeFun (Wgs A tgs ρ J ds N) (fun _ => WgsT A tgs ρ J ds N) := ⟨Wgs.run⟩
def tGs (X : Cx) (tgs : List Expr) : TGs := fun vs σ H Q => ∀ (pins : List (Addr × Obj)) (s : Shared) (us : List Value), Inv X pins σ H s → Vals vs us → wpAny (model X.prog X.w) X.A (assignInOrder ((assignEach tgs X.env).map (·.2)) us) (fun _ s' => ∃ σ' H', Inv X pins σ' H' s' ∧ Q σ' H') X.xe s
theorem pgs_sem {X : Cx} {tgs : List Expr} : PGs X tgs (tGs X tgs) := ⟨fun pins s σ H vs us Q I r h => h pins s us I r⟩
theorem wgs_nil {N : List Sl → Prop} (h : N ρ) : Wgs A [] ρ J [] N := .mk fun W σ vs Q E hd k pins s us I r => by
  cases hd
  exact pgs_nil.run pins s σ W.H [] us Q I r ⟨rfl, k ρ σ h E⟩
theorem wgs_cons {tg : Expr} {tgs : List Expr} {d : PyData} {ds : List PyData} {N : List Sl → Prop} (h : Wg A tg ρ J (.dat d) fun ρ' => Wgs A tgs ρ' J ds N) (hs : (assignEach (tg :: tgs) A.X.env).map (·.2) = assign tg A.X.env :: (assignEach tgs A.X.env).map (·.2) := by rfl) : Wgs A (tg :: tgs) ρ J (d :: ds) N := .mk fun W σ vs Q E hd k pins s us I r => by
  cases hd with
  | cons h1 h2 =>
    refine (pgs_cons pg_sem pgs_sem hs).run pins s σ W.H _ us Q I r ⟨_, _, rfl, ?_⟩
    exact h W σ _ _ E (RtA.dat h1) fun ρ' σ' q E' => (show Wgs A tgs ρ' J ds N from q) W σ' _ Q E' h2 k
theorem wg_tup {tgs : List Expr} {j} {ds : List PyData} {N : List Sl → Prop} (hc : A.X.calm = true) (h : Wgs A tgs ρ J ds N) (hn : (assignEach tgs A.X.env).length = ds.length := by rfl) (hst : (assignEach tgs A.X.env).findIdx? (·.1) = none := by rfl) : Wg A (.Tuple tgs j pos) ρ J (dT ds) N := .mk fun W σ v Q E o k => by
  obtain ⟨a, xs, rfl, q1, _, p1⟩ := o.tup E.ok
  exact g_at (pg_tup hc pgs_sem rfl hst) ⟨a, xs, rfl, q1, by rw [DpAll.len p1, hn], fun pins s us I r => h W σ xs Q E p1 k pins s us I r⟩
theorem wg_lst {tgs : List Expr} {j} {r : Sl} {ds : List PyData} {N : List Sl → Prop} (hc : A.X.calm = true) (hd : dOf r = some (.list ds)) (h : Wgs A tgs ρ J ds N) (hn : (assignEach tgs A.X.env).length = ds.length := by rfl) (hst : (assignEach tgs A.X.env).findIdx? (·.1) = none := by rfl) : Wg A (.Tuple tgs j pos) ρ J r N := .mk fun W σ v Q E o k => by
  obtain ⟨a, xs, rfl, q1, p1⟩ := o.lst hd E.ok
  exact g_at (pg_lst hc pgs_sem rfl hst) ⟨a, xs, rfl, q1, by rw [DpAll.len p1, hn], fun pins s us I r => h W σ xs Q E p1 k pins s us I r⟩
/-! ### loops -/

theorem ws_forL {tg : Expr} {body : List Stmt} (hp : PassesOwn (model A.X.prog A.X.w) A.X.A A.X.env A.X.xe) (hc : A.X.calm = true)
    (h : We A e ρ J fun r => ∃ ds, r = dL ds ∧ ∃ Iv : Nat → List Sl → Res → Prop, Iv 0 ρ J ∧ (∀ (k : Nat) (d : PyData) (ρ' : List Sl) (J' : Res), ds[k]? = some d → Iv k ρ' J' → Wg A tg ρ' J' (.dat d) fun ρ'' => Wss A body ρ'' J' (Iv (k + 1)) rt nx (Iv (k + 1))) ∧
      ∀ (ρ' : List Sl) (J' : Res), Iv ds.length ρ' J' → nx ρ' J') (hs : ∀ x, foldedSetIterable e A.X.env x = pure x := by intro _; rfl) : Ws A (.For tg e body [] pos) ρ J nx rt bk ct := .mk fun W σ D E X k => by
  refine s_at (ps_for hp hc (pi_list pe_sem) pg_sem pss_sem hs) ?_
  refine h W σ _ E X fun r v W1 h1 s1 o1 => ?_
  obtain ⟨ds, rfl, Iv, i0, step, fin⟩ := h1
  obtain ⟨a, xs, rfl, q1, p1⟩ := dp_lst o1.1
  have hl := DpAll.len p1
  refine ⟨a, rfl, ⟨xs, s1.h.seq q1⟩, for_list (K := A.X.K) (a := a) (xs := xs) (fun i σ' H' => ∃ (W' : Wd) (ρ' : List Sl) (J' : Res), W'.H = H' ∧ Same W1.B W'.B ∧ Iv i ρ' J' ∧ EnvA A J' W' σ' ρ') ⟨W1, ρ, J, rfl, Same.refl _, i0, E.up s1⟩ (fun i σ' H' _ ⟨W', ρ', J', eH, sb, _, E'⟩ => by
    rw [← eH]; exact E'.ok.seq (sb.seq q1)) ?_ ?_⟩
  · rintro i y σ' H' hi ⟨W', ρ', J', rfl, sb, iv, E'⟩
    obtain ⟨d, hd, q⟩ := DpAll.at' p1 hi
    refine step i d ρ' J' hd iv W' σ' y _ E' (RtA.dat (Dp.up sb q)) fun ρ'' σ'' hw E'' => ?_
    refine (show Wss A body ρ'' J' (Iv (i + 1)) rt nx (Iv (i + 1)) from hw) W' σ'' _ E'' X ⟨fun ρ3 J3 W3 σ3 n3 b3 E3 => ⟨W3, ρ3, J3, rfl, sb.trans b3, n3, E3⟩, k.rt, fun ρ3 J3 W3 σ3 n3 b3 E3 => k.nx ρ3 J3 W3 σ3 n3 ((s1.b.trans sb).trans b3) E3, fun ρ3 J3 W3 σ3 n3 b3 E3 => ⟨W3, ρ3, J3, rfl, sb.trans b3, n3, E3⟩⟩
  · rintro σ' H' ⟨W', ρ', J', rfl, sb, iv, E'⟩
    rw [hl] at iv
    exact k.nx ρ' J' W' σ' (fin ρ' J' iv) (s1.b.trans sb) E'
theorem ws_forT {tg : Expr} {body : List Stmt} (hp : PassesOwn (model A.X.prog A.X.w) A.X.A A.X.env A.X.xe) (hc : A.X.calm = true)
    (h : We A e ρ J fun r => ∃ ds, r = dT ds ∧ ∃ Iv : Nat → List Sl → Res → Prop, Iv 0 ρ J ∧ (∀ (k : Nat) (d : PyData) (ρ' : List Sl) (J' : Res), ds[k]? = some d → Iv k ρ' J' → Wg A tg ρ' J' (.dat d) fun ρ'' => Wss A body ρ'' J' (Iv (k + 1)) rt nx (Iv (k + 1))) ∧
      ∀ (ρ' : List Sl) (J' : Res), Iv ds.length ρ' J' → nx ρ' J') (hs : ∀ x, foldedSetIterable e A.X.env x = pure x := by intro _; rfl) : Ws A (.For tg e body [] pos) ρ J nx rt bk ct := .mk fun W σ D E X k => by
  refine s_at (ps_for hp hc (pi_tup pe_sem) pg_sem pss_sem hs) ?_
  refine h W σ _ E X fun r v W1 h1 s1 o1 => ?_
  obtain ⟨ds, rfl, Iv, i0, step, fin⟩ := h1
  obtain ⟨a, xs, rfl, q1, p1⟩ := dp_tup o1.1
  have hl := DpAll.len p1
  refine ⟨a, rfl, ⟨xs, seqT s1.h q1⟩, for_tup (K := A.X.K) (a := a) (xs := xs) (fun i σ' H' => ∃ (W' : Wd) (ρ' : List Sl) (J' : Res), W'.H = H' ∧ Same W1.B W'.B ∧ Iv i ρ' J' ∧ EnvA A J' W' σ' ρ') ⟨W1, ρ, J, rfl, Same.refl _, i0, E.up s1⟩ (fun i σ' H' _ ⟨W', ρ', J', eH, sb, _, E'⟩ => by
    rw [← eH]; exact seqT E'.ok (seqT sb q1)) ?_ ?_⟩
  · rintro i y σ' H' hi ⟨W', ρ', J', rfl, sb, iv, E'⟩
    obtain ⟨d, hd, q⟩ := DpAll.at' p1 hi
    refine step i d ρ' J' hd iv W' σ' y _ E' (RtA.dat (Dp.up sb q)) fun ρ'' σ'' hw E'' => ?_
    refine (show Wss A body ρ'' J' (Iv (i + 1)) rt nx (Iv (i + 1)) from hw) W' σ'' _ E'' X ⟨fun ρ3 J3 W3 σ3 n3 b3 E3 => ⟨W3, ρ3, J3, rfl, sb.trans b3, n3, E3⟩, k.rt, fun ρ3 J3 W3 σ3 n3 b3 E3 => k.nx ρ3 J3 W3 σ3 n3 ((s1.b.trans sb).trans b3) E3, fun ρ3 J3 W3 σ3 n3 b3 E3 => ⟨W3, ρ3, J3, rfl, sb.trans b3, n3, E3⟩⟩
  · rintro σ' H' ⟨W', ρ', J', rfl, sb, iv, E'⟩
    rw [hl] at iv
    exact k.nx ρ' J' W' σ' (fin ρ' J' iv) (s1.b.trans sb) E'
/-- for .. in range(e) -/
theorem ws_forR {tg : Expr} {body : List Stmt} {p rpos : Pos} (hp : PassesOwn (model A.X.prog A.X.w) A.X.A A.X.env A.X.xe) (hc : A.X.calm = true) (hm : A.X.mg "range" = none)
    (h : We A e ρ J fun r => ∃ n : Int, r = dI n ∧ n ≤ 1000000000 ∧ -1000000000 ≤ n ∧ ∃ Iv : Nat → List Sl → Res → Prop, Iv 0 ρ J ∧ (∀ (k : Nat) (ρ' : List Sl) (J' : Res), k < n.toNat → Iv k ρ' J' → Wg A tg ρ' J' (dI k) fun ρ'' => Wss A body ρ'' J' (Iv (k + 1)) rt nx (Iv (k + 1))) ∧
      ∀ (ρ' : List Sl) (J' : Res), Iv n.toNat ρ' J' → nx ρ' J') (hg : Gl A.X "range" := by rfl) (hs : starEach [e] A.X.env = [(false, eval e A.X.env)] := by rfl) (hs2 : starEach [e] A.X.env = (false, eval e A.X.env) :: starEach [] A.X.env := by rfl)
    (hf : ∀ x, foldedSetIterable (.Call (.Name "range" p) [e] [] rpos) A.X.env x = pure x := by intro _; rfl) : Ws A (.For tg (.Call (.Name "range" p) [e] [] rpos) body [] pos) ρ J nx rt bk ct := .mk fun W σ D E X k => by
  refine s_at (ps_for hp hc (pi_range1 hg hm (pa_cons pe_sem pa_nil hs2) hs) pg_sem pss_sem hf) ?_
  show tE A.X e σ W.H fun y H1 => ∃ j : Int, [y] = [V.int j] ∧ -(2 ^ 62) ≤ j ∧ j < 2 ^ 62 ∧ _
  refine h W σ _ E X fun r v W1 h1 s1 o1 => ?_
  obtain ⟨n, rfl, b1, b2, Iv, i0, step, fin⟩ := h1
  refine ⟨n, by rw [dp_int o1.1], by omega, by omega, for_range (lo := 0) (n := n.toNat) (fun i σ' H' => ∃ (W' : Wd) (ρ' : List Sl) (J' : Res), W'.H = H' ∧ Same W1.B W'.B ∧ Iv i ρ' J' ∧ EnvA A J' W' σ' ρ') ⟨W1, ρ, J, rfl, Same.refl _, i0, E.up s1⟩ ?_ ?_⟩
  · rintro i σ' H' hi ⟨W', ρ', J', rfl, sb, iv, E'⟩
    have e0 : (0 : Int) + (i : Int) = (i : Int) := Int.zero_add _
    rw [e0]
    refine step i ρ' J' hi iv W' σ' (.int i) _ E' RtA.int fun ρ'' σ'' hw E'' => ?_
    refine (show Wss A body ρ'' J' (Iv (i + 1)) rt nx (Iv (i + 1)) from hw) W' σ'' _ E'' X ⟨fun ρ3 J3 W3 σ3 n3 b3 E3 => ⟨W3, ρ3, J3, rfl, sb.trans b3, n3, E3⟩, k.rt, fun ρ3 J3 W3 σ3 n3 b3 E3 => k.nx ρ3 J3 W3 σ3 n3 ((s1.b.trans sb).trans b3) E3, fun ρ3 J3 W3 σ3 n3 b3 E3 => ⟨W3, ρ3, J3, rfl, sb.trans b3, n3, E3⟩⟩
  · rintro σ' H' ⟨W', ρ', J', rfl, sb, iv, E'⟩
    exact k.nx ρ' J' W' σ' (fin ρ' J' iv) (s1.b.trans sb) E'
end
end DL

namespace DL
open PySem PySem.Spec PyProof.Rows L2
/-! ### subscripts, slices -/
def iR (X : Cx) : R2 := fun x y H Q => ∀ (value slice : Expr) (pins : List (Addr × Obj)) (s : Shared) (σ : St) (v u : Value), Inv X pins σ H s → RelV x v → RelV y u → subscripted slice false v u = operate [v, u] (getItem v u) →
  wpAny (model X.prog X.w) X.A (subscriptTail value slice v u) (EP X pins σ Q) X.xe s
theorem iR_ok {X : Cx} : IxR X (iR X) := fun value slice pins s σ H x y v u Q I r1 r2 h hs => h value slice pins s σ v u I r1 r2 hs
theorem i_at {X : Cx} {r : R2} (h : IxR X r) {x y : V} {H : Hp} {Q : VK} (q : r x y H Q) : iR X x y H Q := fun value slice pins s σ v u I r1 r2 hs => h value slice pins s σ H x y v u Q I r1 r2 q hs
def IdT (A : Act) (ρ : List Sl) (J : Res) (r1 r2 : Sl) (R : Sl → Prop) : Prop := ∀ (W : Wd) (σ : St) (v1 v2 : V) (Q : VK), EnvA A J W σ ρ → RtA A J W σ ρ v1 r1 → RtA A J W σ ρ v2 r2 → Wk A ρ J R W σ Q → iR A.X v1 v2 W.H Q
structure Id (A : Act) (ρ : List Sl) (J : Res) (r1 r2 : Sl) (R : Sl → Prop) : Prop where
  run : IdT A ρ J r1 r2 R
instance (A : Act) (ρ : List Sl) (J : Res) (r1 r2 : Sl) (R : Sl → Prop) : CoeFun (Id A ρ J r1 r2 R) (fun _ => IdT A ρ J r1 r2 R) := ⟨Id.run⟩
def sR (X : Cx) : V → Option Int → Option Int → Hp → VK → Prop := fun x lo hi H Q => ∀ (pins : List (Addr × Obj)) (s : Shared) (σ : St) (v vl vu : Value) (sl : Addr), Inv X pins σ H s → RelV x v → s.heap.IsSliceOf sl vl vu .none → IsPart vl lo → IsPart vu hi →
    ∃ T id, typeLookup (.type T) "__getitem__" = pure (some (.builtin id)) ∧ s.TypeIs v T ∧ wpAny (model X.prog X.w) X.A (getItem v (.ref sl)) (EP X pins σ Q) X.xe s
theorem sR_ok {X : Cx} : SlR X (sR X) := fun pins s σ H x v vl vu lo hi sl Q I r1 hs pl pu h => h pins s σ v vl vu sl I r1 hs pl pu
theorem sl_at {X : Cx} {r : V → Option Int → Option Int → Hp → VK → Prop} (h : SlR X r) {x : V} {lo hi : Option Int} {H : Hp} {Q : VK} (q : r x lo hi H Q) : sR X x lo hi H Q := fun pins s σ v vl vu sl I r1 hs pl pu => h pins s σ H x v vl vu lo hi sl Q I r1 hs pl pu q
def SdT (A : Act) (ρ : List Sl) (J : Res) (r1 : Sl) (lo hi : Option Int) (R : Sl → Prop) : Prop := ∀ (W : Wd) (σ : St) (v1 : V) (Q : VK), EnvA A J W σ ρ → RtA A J W σ ρ v1 r1 → Wk A ρ J R W σ Q → sR A.X v1 lo hi W.H Q
structure Sd (A : Act) (ρ : List Sl) (J : Res) (r1 : Sl) (lo hi : Option Int) (R : Sl → Prop) : Prop where
  run : SdT A ρ J r1 lo hi R
instance (A : Act) (ρ : List Sl) (J : Res) (r1 : Sl) (lo hi : Option Int) (R : Sl → Prop) : CoeFun (Sd A ρ J r1 lo hi R) (fun _ => SdT A ρ J r1 lo hi R) := ⟨Sd.run⟩
/-- a slice's part -/
def WpT (A : Act) (e : Option Expr) (ρ : List Sl) (J : Res) (R : Option Int → Prop) : Prop := ∀ (W : Wd) (σ : St) (Q : Option Int → Hp → Prop), EnvA A J W σ ρ → Exits A → (∀ o W1, R o → Stp0 W W1 → Q o W1.H) →
  ∀ (pins : List (Addr × Obj)) (s : Shared), Inv A.X pins σ W.H s → wpAny (model A.X.prog A.X.w) A.X.A (evalPart e A.X.env) (fun u s' => ∃ o H', Inv A.X pins σ H' s' ∧ IsPart u o ∧ Q o H') A.X.xe s
structure Wp (A : Act) (e : Option Expr) (ρ : List Sl) (J : Res) (R : Option Int → Prop) : Prop where
  run : WpT A e ρ J R
instance (A : Act) (e : Option Expr) (ρ : List Sl) (J : Res) (R : Option Int → Prop) : CoeFun (Wp A e ρ J R) (fun _ => WpT A e ρ J R) := ⟨Wp.run⟩
def tP (X : Cx) (e : Option Expr) : TO := fun σ H Q => ∀ (pins : List (Addr × Obj)) (s : Shared), Inv X pins σ H s → wpAny (model X.prog X.w) X.A (evalPart e X.env) (fun u s' => ∃ o H', Inv X pins σ H' s' ∧ IsPart u o ∧ Q o H') X.xe s
theorem po_sem {X : Cx} {e : Option Expr} : PO X e (tP X e) := ⟨fun pins s σ H Q I h => h pins s I⟩
section
variable {A : Act} {ρ : List Sl} {J : Res} {R : Sl → Prop} {a b e : Expr} {es : List Expr} {pos : Pos}
theorem wp_none {R : Option Int → Prop} (h : R none) : Wp A none ρ J R := .mk fun W σ Q E X k pins s I => po_none.run pins s σ W.H Q I (k none W h (.refl E.ok))
theorem wp_some {R : Option Int → Prop} (h : We A e ρ J fun r => ∃ i, r = dI i ∧ R (some i)) : Wp A (some e) ρ J R := .mk fun W σ Q E X k pins s I => by
  refine (po_some pe_sem).run pins s σ W.H Q I ?_
  show tE A.X e σ W.H fun x H1 => ∃ i, x = .int i ∧ Q (some i) H1
  refine h W σ _ E X fun r v W1 h1 s1 o1 => ?_
  obtain ⟨i, rfl, hi⟩ := h1
  exact ⟨i, dp_int o1.1, k _ W1 hi s1⟩
theorem we_ix (hs : PlainIx b) (h : We A a ρ J fun r1 => We A b ρ J fun r2 => Id A ρ J r1 r2 R) : We A (.Subscript a b pos) ρ J R := .mk fun W σ Q E X k => by
  refine e_at (pe_ix iR_ok pe_sem pe_sem hs) ?_
  show tE A.X a σ W.H fun x H1 => tE A.X b σ H1 fun y H2 => iR A.X x y H2 Q
  refine h W σ _ E X fun r1 v1 W1 h1 s1 o1 => h1 W1 σ _ (E.up s1) X fun r2 v2 W2 h2 s2 o2 => ?_
  exact h2 W2 σ v1 v2 Q ((E.up s1).up s2) (o1.up s2) o2 (k.from (s1.trans s2))
theorem we_slice {lo hi : Option Expr} {p2 : Pos} (h : We A a ρ J fun r1 => Wp A lo ρ J fun l => Wp A hi ρ J fun u => Sd A ρ J r1 l u R) : We A (.Subscript a (.Slice lo hi none p2) pos) ρ J R := .mk fun W σ Q E X k => by
  refine e_at (pe_slice sR_ok pe_sem po_sem po_sem) ?_
  show tE A.X a σ W.H fun x H1 => tP A.X lo σ H1 fun l H2 => tP A.X hi σ H2 fun u H3 => sR A.X x l u H3 Q
  refine h W σ _ E X fun r1 v1 W1 h1 s1 o1 => ?_
  refine h1 W1 σ _ (E.up s1) X fun l W2 h2 s2 => h2 W2 σ _ ((E.up s1).up s2) X fun u W3 h3 s3 => ?_
  exact h3 W3 σ v1 Q (((E.up s1).up s2).up s3) ((o1.up s2).up s3) (k.from ((s1.trans s2).trans s3))
theorem atI_dp {K : PySem.W.Frag} {H : Hp} {xs : List V} {ds : List PyData} {i : Int} {d : PyData} (h : DpAll K H xs ds) (e : atI ds i = some d) : ∃ v, atI xs i = some v ∧ Dp K H v d := by
  unfold atI at e ⊢
  rw [DpAll.len h]
  cases q : ixN ds.length i with
  | none => rw [q] at e; cases e
  | some j =>
    rw [q] at e
    exact DpAll.at h e
theorem id_tup {ds : List PyData} {i : Int} {d : PyData} (he : atI ds i = some d) (h : R (.dat d)) : Id A ρ J (dT ds) (dI i) R := .mk fun W σ v1 v2 Q E o1 o2 k => by
  obtain ⟨p, xs, rfl, q1, _, p1⟩ := o1.tup E.ok
  obtain ⟨v, hv, hd⟩ := atI_dp p1 he
  exact i_at ix_tup ⟨p, xs, i, v, rfl, dp_int o2.1, q1, hv, k.now E h (RtA.dat hd)⟩
theorem id_lst {r : Sl} {ds : List PyData} {i : Int} {d : PyData} (hr : dOf r = some (.list ds)) (he : atI ds i = some d) (h : R (.dat d)) : Id A ρ J r (dI i) R := .mk fun W σ v1 v2 Q E o1 o2 k => by
  obtain ⟨p, xs, rfl, q1, p1⟩ := o1.lst hr E.ok
  obtain ⟨v, hv, hd⟩ := atI_dp p1 he
  exact i_at ix_list ⟨p, xs, i, v, rfl, dp_int o2.1, q1, hv, k.now E h (RtA.dat hd)⟩
theorem id_str {z : Str} {i : Int} {c : Nat} (hz : z.length ≤ 1000000) (he : atI z.cps.toList i = some c) (h : R (dS ⟨#[c]⟩)) : Id A ρ J (dS z) (dI i) R := .mk fun W σ v1 v2 Q E o1 o2 k =>
  i_at ix_str ⟨z, i, c, dp_str o1.1, dp_int o2.1, Nat.le_trans hz (by decide), he, k.now E h RtA.str⟩
/-- the part of a list -/
def cutD {α : Type} (xs : List α) (lo hi : Option Int) : List α := (xs.drop (HT.sIx xs.length 0 lo)).take (HT.sIx xs.length xs.length hi - HT.sIx xs.length 0 lo)
theorem cut_dp {K : PySem.W.Frag} {H : Hp} {xs : List V} {ds : List PyData} {lo hi : Option Int} (h : DpAll K H xs ds) : DpAll K H (cutV xs lo hi) (cutD ds lo hi) := by
  unfold cutV cutD
  rw [DpAll.len h]
  exact DpAll.take _ (DpAll.drop _ h)
theorem sd_lst {r : Sl} {ds : List PyData} {lo hi : Option Int} (hr : dOf r = some (.list ds)) (h : R (.own (cutD ds lo hi))) : Sd A ρ J r lo hi R := .mk fun W σ v1 Q E o1 k => by
  obtain ⟨p, xs, rfl, q1, p1⟩ := o1.lst hr E.ok
  exact sl_at sl_list ⟨p, xs, rfl, q1, k.newL E (cut_dp p1) h⟩
theorem sd_tup {ds : List PyData} {lo hi : Option Int} (h : R (dT (cutD ds lo hi))) : Sd A ρ J (dT ds) lo hi R := .mk fun W σ v1 Q E o1 k => by
  obtain ⟨p, xs, rfl, q1, q2, p1⟩ := o1.tup E.ok
  refine sl_at sl_tupA ⟨p, xs, rfl, q1, fun hw => ?_, fun _ => k.newT E (cut_dp p1) h⟩
  have e : cutD ds lo hi = ds := by
    unfold cutD
    rw [← DpAll.len p1, hw.1, hw.2]
    show (ds.drop 0).take _ = ds
    rw [List.drop_zero, DpAll.len p1]
    exact List.take_of_length_le (Nat.le_refl _)
  rw [e] at h
  exact k.now E h (RtA.dat (.tup q2 p1))
theorem sd_str {z : Str} {lo hi : Option Int} (hz : z.length ≤ 1000000) (h : R (dS (cutS z lo hi))) : Sd A ρ J (dS z) lo hi R := .mk fun W σ v1 Q E o1 k =>
  sl_at sl_str ⟨z, dp_str o1.1, Nat.le_trans hz (by decide), k.now E h RtA.str⟩
end

/-! ### what a def promises -/
structure Spec (α : Type) where
  args : α → List Sl
  pre : α → Prop := fun _ => True
  J : α → Res := fun _ => .emp
  M : α → Addr → HO → Prop := fun _ _ _ => False
  rt : α → Sl → Res → Prop
  ex : α → Exn → Res → Prop := fun _ _ _ => False
def Spec.md {α : Type} (S : Spec α) (a : α) : Md := ⟨S.M a, (S.J a).fp⟩
def Spec.sp {α : Type} (S : Spec α) (K : PySem.W.Frag) : Sp := fun vs H Q E => ∃ (x : α) (B : Hp), Same B H ∧ (∀ a ps, B a ≠ some (.tbl ps)) ∧ Paired (fun v r => VOk K ⟨B, H⟩ ⟨B, H⟩ v r) vs (S.args x) ∧ S.pre x ∧ (S.J x).P B H ∧ (∀ a, (S.J x).fp a → B a = none ∧ Nt H a) ∧
  (∀ (r : Sl) (J' : Res) (W' : Wd) (v : V), S.rt x r J' → Sat K (S.md x) ⟨B, H⟩ J' W' → VOk K ⟨B, H⟩ W' v r → Q v W'.H) ∧
  (∀ (e : Exn) (J' : Res) (W' : Wd) (v : V) (dd : Addr), S.ex x e J' → Sat K (S.md x) ⟨B, H⟩ J' W' → W'.H dd = some (.xd [(e.f, v)]) → W'.B dd = none → Dp K W'.B v e.d → E (.ref e.C) (some dd) W'.H)
def isStb : Sl → Bool
  | .own _ => false
  | .bor _ => false
  | _ => true
theorem VOk.stb {K : PySem.W.Frag} {W0 W1 W : Wd} {v : V} {r : Sl} (h : VOk K W0 W v r) (hs : isStb r = true) : VOk K W1 W v r := by
  cases r <;> first | exact h | cases hs
/-- a run of a def -/
def actOf (P : Program) (w : World) (K : PySem.W.Frag) (mg : Str → Option Value) (base : Heap) (N : List Str) (qual : Str) (sc : Scope) (f : Addr) (cdv : Value) (A0 : Around) (outer : List PySem.Env) (s : Shared) (M : Md) (W0 : Wd) (E : XK) (px : Exn → Res → Prop) : Act :=
  ⟨cxOf (L2.CX P w) P w K mg base N qual sc f cdv A0 outer s W0.H E, M, W0, E, px⟩
/-- a def that stands under a name and keeps a promise -/
structure Cal (P : Program) (w : World) (K : PySem.W.Frag) (mg : Str → Option Value) (base : Heap) (k : Nat) (x : Str) (sp : Sp) : Prop where
  ex : ∃ (f : Addr) (fd : FuncData) (ps : List Str), FnOk P w K mg base (L2.CX P w) k f fd ps sp ∧ mg x = some (.ref f) ∧ PySem.W.keepIn K (.ref f) = true ∧ Binds K fd ps []
structure Met (P : Program) (w : World) (K : PySem.W.Frag) (mg : Str → Option Value) (base : Heap) (k : Nat) (C : Addr) (m : Str) (sp : Sp) : Prop where
  ex : ∃ (f : Addr) (fd : FuncData) (ps : List Str), FnOk P w K mg base (L2.CX P w) k f fd ps sp ∧ Cls K C ∧ Meth K C m f ∧ Binds K fd ps []
structure Mak (P : Program) (w : World) (K : PySem.W.Frag) (mg : Str → Option Value) (base : Heap) (k : Nat) (x : Str) (C : Addr) (sp : Sp) : Prop where
  ex : ∃ (f : Addr) (fd : FuncData) (ps : List Str), FnOk P w K mg base (L2.CX P w) k f fd ps sp ∧ Mk K C f ∧ mg x = some (.ref C) ∧ Binds K fd ps []
def unN (n : Nat) : List Sl := List.replicate n .un
theorem env_start {K : PySem.W.Frag} {M : Md} {J : Res} {W : Wd} {vs : List V} {rs : List Sl} {N : List Str} (ok : Same W.B W.H) (nt : ∀ a ps, W.B a ≠ some (.tbl ps)) (hp : Paired (fun v r => VOk K W W v r) vs rs) (hs : rs.all isStb = true) (hJ : J.P W.B W.H) (sep : ∀ a, J.fp a → W.B a = none ∧ Nt W.H a ∧ M.z a) (hN : rs.length ≤ N.length) :
    Env K M J W W (L2.start N vs) (rs ++ unN (N.length - rs.length)) := by
  have hl : vs.length = rs.length := Paired.length hp
  have get : ∀ (i : Nat) (r : Sl), (rs ++ unN (N.length - rs.length))[i]? = some r → (∃ v, vs[i]? = some v ∧ rs[i]? = some r ∧ VOk K W W v r) ∨ r = .un := fun i r h => by
    by_cases hi : i < rs.length
    · rw [List.getElem?_append_left hi] at h
      left
      have : ∀ {vs : List V} {rs : List Sl} {i : Nat}, Paired (fun v r => VOk K W W v r) vs rs → rs[i]? = some r → ∃ v, vs[i]? = some v ∧ VOk K W W v r := by
        intro vs rs i hp h
        induction hp generalizing i with
        | nil => simp at h
        | cons a b ih =>
          cases i with
          | zero => exact ⟨_, rfl, by have e := Option.some.inj h; subst e; exact a⟩
          | succ j => exact ih (i := j) h
      obtain ⟨v, h1, h2⟩ := this hp h
      exact ⟨v, h1, h, h2⟩
    · rw [List.getElem?_append_right (by omega)] at h
      right
      unfold unN at h
      have := List.getElem?_eq_some_iff.mp h
      obtain ⟨h1, h2⟩ := this
      rw [List.getElem_replicate] at h2
      exact h2.symm
  have noown : ∀ (i : Nat) (r : Sl), (rs ++ unN (N.length - rs.length))[i]? = some r → isStb r = true := fun i r h => by
    rcases get i r h with ⟨v, _, h1, _⟩ | h1
    · exact List.all_eq_true.mp hs r (List.mem_of_getElem? h1)
    · rw [h1]; rfl
  have no1 : ∀ {i : Nat} {r : Sl}, (rs ++ unN (N.length - rs.length))[i]? = some r → isOwn r = true → False := fun {i r} h ho => by
    have z := noown i r h
    cases r <;> first | (exact absurd z Bool.false_ne_true) | (cases ho; done)
  refine ⟨ok, Stp.refl ok, ?_, fun i r h => ?_, fun i j p r q h _ ho _ _ _ => (no1 h ho).elim, hJ, fun a h => ⟨(sep a h).1, (sep a h).2.1, .inl (sep a h).2.2⟩, fun i p r h ho _ => (no1 h ho).elim, fun i ds h => ?_, nt⟩
  · unfold L2.start unN
    simp only [List.length_append, List.length_map, List.length_replicate]
    omega
  · rcases get i r h with ⟨v, h1, h2, h3⟩ | h1
    · have hi : i < vs.length := (List.getElem?_eq_some_iff.mp h1).1
      have e : at_ (L2.start N vs) i = some v := by
        unfold at_ L2.start
        rw [List.getElem?_append_left (by rw [List.length_map]; exact hi), List.getElem?_map, h1]
        rfl
      rw [e]
      exact .of h3
    · rw [h1]; exact True.intro
  · have z := noown i _ h
    cases z
/-- THE RULE for a def: its body, run over slots -/
theorem fn_ok {α : Type} (S : Spec α) {P : Program} {w : World} {K : PySem.W.Frag} {mg : Str → Option Value} {base : Heap} {x qual : Str} {params : Arguments} {body : List Stmt} {sc : Scope} {dvs : List V} {kws : List (Str × V)} {f : Addr} {fd : FuncData} {N ps : List Str} {k : Nat}
    (F : FunD K x qual params body sc dvs kws f fd) (hS : FnScope N ps sc) (hl : ∀ a, (S.args a).length = ps.length) (hs : ∀ a, (S.args a).all isStb = true) (hN : ps.length ≤ N.length)
    (hb : ∀ (a : α) (cdv : Value) (A0 : Around) (outer : List PySem.Env) (s : Shared) (W0 : Wd) (E : XK), Room k (A0.deeper (envOfC qual sc s.heap.objs.size f cdv)) → S.pre a →
      Wss (actOf P w K mg base N qual sc f cdv A0 outer s (S.md a) W0 E (S.ex a)) body (S.args a ++ unN (N.length - (S.args a).length)) (S.J a) (fun _ J' => S.rt a dN J') (S.rt a) (fun _ _ => False) (fun _ _ => False)) :
    FnOk P w K mg base (L2.CX P w) (k + 1) f fd ps (S.sp K) := by
  refine F.ok hS (fun vs H Q E h => ?_) (fun cdv A0 outer s H vs Q E hr h => ?_)
  · obtain ⟨a, B, _, _, hp, _⟩ := h
    rw [Paired.length hp, hl a]
  · obtain ⟨a, B, ok, nt, hp, hpre, hJ, sep, kr, ke⟩ := h
    have hb' := hb a cdv A0 outer s ⟨B, H⟩ E hr hpre
    refine ⟨_, pss_sem, ?_⟩
    refine hb' ⟨B, H⟩ (L2.start N vs) { nx := fun _ H' => Q .non H', rt := Q } (env_start (N := N) ok nt hp (hs a) hJ (fun z hz => ⟨(sep z hz).1, (sep z hz).2, hz⟩) (by rw [hl a]; exact hN)) (fun e J' v dd W' h1 S1 h2 hb h3 => ke e J' W' v dd h1 S1 h2 hb h3) ⟨fun ρ' J' W' σ' h1 _ E' => kr dN J' W' .non h1 E'.sat .non, fun r J' W' v h1 S1 o1 => kr r J' W' v h1 S1 o1, fun _ _ _ _ z _ _ => z.elim, fun _ _ _ _ z _ _ => z.elim⟩
/-! ### calls -/
section
variable {A : Act} {ρ : List Sl} {J : Res} {R : Sl → Prop} {a b e : Expr} {es : List Expr} {pos p : Pos}
theorem vok_from {W W1 : Wd} {σ : St} {v : V} {r : Sl} (E : EnvA A J W σ ρ) (h : VOk A.X.K ⟨W.B, W.H⟩ W1 v r) (hl : ∀ q, isMine r = true → v = .ref q → ¬ Nt W.H q) : RtA A J W1 σ ρ v r := by
  have fr : ∀ q, isMine r = true → v = .ref q → ¬ J.fp q ∧ ∀ i q', ρ[i]? = some q' → isOwn q' = true → at_ σ i ≠ some (.ref q) := fun q hm hv => E.fresh (hl q hm hv)
  refine ⟨?_, fun hm q hv => (fr q hm hv).1, fun ho q hv => (fr q (mine_of ho) hv).2⟩
  cases r with
  | own ds =>
    obtain ⟨q, vs, e1, h0, h1, h2, h3⟩ := h
    exact ⟨q, vs, e1, E.live h0, h1, h2, h3⟩
  | bor ds =>
    obtain ⟨q, vs, e1, h0, h1, h2, h3⟩ := h
    exact ⟨q, vs, e1, E.live h0, h1, h2, h3⟩
  | _ => exact h
theorem vok_new {W W1 : Wd} {v : V} {r : Sl} {K : PySem.W.Frag} (h : VOk K ⟨W.B, W.H⟩ W1 v r) : ∀ q, isMine r = true → v = .ref q → ¬ Nt W.H q := fun q hm hv => by
  cases r with
  | own ds =>
    obtain ⟨q', vs, e1, h0, _⟩ := h
    rw [hv] at e1
    injection e1 with e1
    rw [e1]; exact h0
  | bor ds =>
    obtain ⟨q', vs, e1, h0, _⟩ := h
    rw [hv] at e1
    injection e1 with e1
    rw [e1]; exact h0
  | _ => cases hm
theorem stb_pair {W : Wd} {σ : St} : ∀ {rs : List Sl} {vs : List V}, rs.all isStb = true → Paired (fun v r => RtA A J W σ ρ v r) vs rs → Paired (fun v r => VOk A.X.K ⟨W.B, W.H⟩ ⟨W.B, W.H⟩ v r) vs rs
  | _, _, _, .nil => .nil
  | _, _, hs, .cons h t => by
    obtain ⟨h1, h2⟩ := Bool.and_eq_true_iff.mp (show (isStb _ && List.all _ isStb) = true from hs)
    exact .cons (VOk.stb h.1 h1) (stb_pair h2 t)
/-- what a pure call asks: an argument of the promise -/
def PCall {α : Type} (S : Spec α) (A : Act) (J : Res) (rs : List Sl) (R : Sl → Prop) : Prop := ∃ a : α, rs = S.args a ∧ (S.args a).all isStb = true ∧ S.pre a ∧ (∀ z o, ¬ S.M a z o) ∧ (∀ B H, J.P B H → (S.J a).P B H) ∧ (∀ z, (S.J a).fp z → J.fp z) ∧
  (∀ r J', S.rt a r J' → R r) ∧ (∀ e J', S.ex a e J' → A.px e J)
theorem pcall {α : Type} {S : Spec α} {rs : List Sl} (h : PCall S A J rs R) {W : Wd} {σ : St} {Q : VK} {vs : List V} (E : EnvA A J W σ ρ) (X : Exits A) (o : Paired (fun v r => RtA A J W σ ρ v r) vs rs) (k : Wk A ρ J R W σ Q) : (S.sp A.X.K) vs W.H Q A.E := by
  obtain ⟨x, e1, hst, hpre, hM, hJ, hfp, hr, he⟩ := h
  subst e1
  refine ⟨x, W.B, E.ok, E.st.t E.nt, stb_pair hst o, hpre, hJ _ _ E.res, fun z hz => ⟨(E.sep z (hfp z hz)).1, (E.sep z (hfp z hz)).2.1⟩, fun r J' W' v h1 S1 o1 => ?_, fun e J' W' v dd h1 S1 h2 hb h3 => ?_⟩
  · have s1 : Stp0 W W' := by
      exact S1.st.weak fun a o z => (hM a o z).elim
    refine k r v W' (hr r J' h1) s1 ?_
    have := vok_from E o1 (vok_new (W := W) o1)
    exact this
  · have s1 : Stp0 W W' := by
      exact S1.st.weak fun a o z => (hM a o z).elim
    exact X e J v dd W' (he e J' h1) (E.up s1).sat h2 hb h3
theorem we_call {α : Type} {S : Spec α} {k j : Nat} {x : Str} (c : Cal A.X.prog A.X.w A.X.K A.X.mg A.X.base k x (S.sp A.X.K)) (hr : Room j A.X.A) (hk : k ≤ j) (tk : Takes A.X fun cls d _ H => A.E cls d H) (h : Wa A (e :: es) ρ J fun rs => PCall S A J rs R) (hg : Gl A.X x := by rfl) (hdb : (x == ("__debug__" : Str)) = false := by decide)
    (he : starEach (e :: es) A.X.env = (false, eval e A.X.env) :: starEach es A.X.env := by rfl) (hpl : (backTo pos (starEach es A.X.env)).any (·.1) = false := by rfl) : We A (.Call (.Name x p) (e :: es) [] pos) ρ J R := .mk fun W σ Q E X kk => by
  obtain ⟨f, fd, ps, F, hm, hkp, hb⟩ := c.ex
  refine e_at (pe_call (E := A.E) F (hr.mono hk) hg hm hkp hb .nil (fun pins σ H s e s' I c => passes_call tk (fun _ _ _ _ z => z) pins σ H s e s' I c) pa_sem hdb he hpl) ?_
  show tA A.X (e :: es) σ W.H fun vs H1 => (S.sp A.X.K) (vs ++ []) H1 Q A.E
  refine h W σ _ E X fun rs vs W1 h1 s1 o1 => ?_
  rw [List.append_nil]
  exact pcall h1 (E.up s1) X o1 (kk.from s1)
end
end DL

/-! DLx: own exceptions over ValueError whose __init__ says super().__init__("..") and stores one field. -/
namespace DL
open PySem PySem.Spec PySem.W PySem.Calls PyProof.Rows PySem.HandSPX
/-! ### the text of such an __init__ -/
def xA (f : Str) (p1 p2 : Pos) : Arguments := { posonlyargs := [], args := [{ arg := "self", annotation := none, pos := p1 }, { arg := f, annotation := none, pos := p2 }], vararg := none, kwonlyargs := [], kw_defaults := [], kwarg := none, defaults := [] }
def xB (f msg : Str) (j : Nat) (q1 q2 q3 q4 q5 q6 q7 q8 q9 q10 : Pos) : List Stmt :=
  [.Expr (.Call (.Attribute (.Call (.Name "super" q1) [] [] q2) "__init__" q3) [.Constant (.str msg) j q4] [] q5) q6, .Assign [.Attribute (.Name "self" q7) f q8] (.Name f q9) q10]
def xS (f : Str) : Scope := { kind := .function, names := [(PySem.Str.ofString "self", .local), (f, .local), (PySem.Str.ofString "__class__", .free), (PySem.Str.ofString "super", .globalImplicit)], isGenerator := false, isCoroutine := false, more := [] }
/-- what the written part says of the class x at C, of its __init__ at fI, its field f -/
structure XTxt (prog : Program) (K : Frag) (mg : Str → Option Value) (x : Str) (C fI : Addr) (f : Str) : Prop where
  gC : mg x = some (.ref C)
  cls : ∃ nm q N bs bm sn sub ab col dd k0 k1 k2 k3 k5, K.lookup C = some (excClassObj nm q C N bs bm true sn sub ab col dd k0 k1 k2 k3 k5 "ValueError.__new__") ∧ refsVE bm = true ∧ alongIn K "__init__" bm = some (some (.builtin "ValueError.__init__"))
  sa : findIn K (.ref C) "__setattr__" = some (some (.builtin "object.__setattr__"))
  ga : findIn K (.ref C) "__getattribute__" = some (some (.builtin "BaseException.__getattribute__"))
  gg : findIn K (.ref C) "__getattr__" = some none
  noN : findIn K (.ref C) f = some none
  iC : findIn K (.ref C) "__init__" = some (some (.ref fI))
  tC : typeIn K (.ref fI) = some (.type "function")
  kC : keepIn K (.ref C) = true
  exC : subIn K (.ref C) (.type "BaseException") = some true
  veC : subIn K (.ref C) (.type "ValueError") = some true
  tyC : typeIn K (.ref C) = some (.type "type")
  hdC : hasDictIn K C = true
  fn : ∃ (q : Str) (oc : Value) (od : Option Addr) (doc pm : Value) (an : Option Addr) (cda cc : Addr) (ct : Value) (osl : Array (Option Value)) (p1 p2 q1 q2 q3 q4 q5 q6 q7 q8 q9 q10 : Pos) (j : Nat) (msg : Str) (ccl : Value) (cdd : Option Addr) (vs : Array Value) (ccs : Array (Option Value)) (file : Str) (tf : Tok) (cl : Value) (cld : Option Addr) (csl : Array (Option Value)),
    K.lookup fI = some ⟨oc, od, .func (fnX "__init__" q (xA f p1 p2) (xB f msg j q1 q2 q3 q4 q5 q6 q7 q8 q9 q10) (xS f) [("__class__", cc)] .none .none doc pm an (.ref cda) ct), osl⟩ ∧ codeIn K (.ref cda) q = true ∧
    K.lookup cda = some ⟨ccl, cdd, .fields vs, ccs⟩ ∧ vs[2]? = some (.str file tf) ∧ ((prog.main.file : Str) == file) = true ∧ K.lookup cc = some ⟨cl, cld, .cell (some (.ref C)), csl⟩ ∧
    (∃ pl : PySem.Env → Sem Bool, ∀ env : PySem.Env, eval (.Call (.Attribute (.Call (.Name "super" q1) [] [] q2) "__init__" q3) [.Constant (.str msg) j q4] [] q5) env = (do
      let ov ← attributeBase (.Call (.Name "super" q1) [] [] q2) "__init__" env (eval (.Call (.Name "super" q1) [] [] q2) env)
      standAt q3.atName
      let (f, first) ← holding [ov] (getMethod ov "__init__" (pl env))
      callWith q5 f first (backTo q5 (starEach [.Constant (.str msg) j q4] env)) []))
  sup : mg "super" = none
  top : (prog.main.scope.names.lookup ("super" : Str)).isSome = false
  opq : nsIn K cStatics "thirdparty.any" = some none
  bd : ∀ (q : Str) (body : List Stmt) (cl : List (Str × Addr)) (doc pm : Value) (an : Option Addr) (cda : Addr) (ct : Value) (p1 p2 : Pos) (a b : Value), bindArgs (fnX "__init__" q (xA f p1 p2) body (xS f) cl .none .none doc pm an (.ref cda) ct) ⟨[a, b], []⟩ = pure [(("self" : Str), a), (f, b)]
  f1 : f ≠ "self"
  f2 : f ≠ "__class__"
  f3 : f ≠ "super"
  f4 : (f == ("__debug__" : Str)) = false
theorem xl1 {f : Str} : (xS f).names.lookup ("self" : Str) = some .local := by
  show List.lookup _ (_ :: _) = _
  rfl
theorem lk_skip {f g : Str} {k : NameKind} {r : List (Str × NameKind)} (h : f ≠ g) : List.lookup g ((f, k) :: r) = List.lookup g r := by
  have q : (g == f) = false := by simp [Ne.symm h]
  simp [List.lookup, q]
theorem lk_hit {f : Str} {k : NameKind} {r : List (Str × NameKind)} : List.lookup f ((f, k) :: r) = some k := by simp [List.lookup]
theorem xl2 {f : Str} (h1 : f ≠ "self") : (xS f).names.lookup f = some .local := by
  show List.lookup f ((PySem.Str.ofString "self", NameKind.local) :: (f, NameKind.local) :: _) = _
  rw [lk_skip (Ne.symm h1), lk_hit]
theorem xl3 {f : Str} (h2 : f ≠ "__class__") : (xS f).names.lookup ("__class__" : Str) = some .free := by
  show List.lookup _ ((PySem.Str.ofString "self", NameKind.local) :: (f, NameKind.local) :: (PySem.Str.ofString "__class__", .free) :: _) = _
  rw [lk_skip (by decide), lk_skip h2]
  exact lk_hit
theorem xl4 {f : Str} (h3 : f ≠ "super") : (xS f).names.lookup ("super" : Str) = some .globalImplicit := by
  show List.lookup _ ((PySem.Str.ofString "self", NameKind.local) :: (f, NameKind.local) :: (PySem.Str.ofString "__class__", .free) :: (PySem.Str.ofString "super", .globalImplicit) :: _) = _
  rw [lk_skip (by decide), lk_skip h3, lk_skip (by decide)]
  exact lk_hit
/-- what __init__ leaves of a fresh exception at x -/
structure XEnd (h h' : Heap) (x C dx t1 : Addr) (f : Str) (v : Value) : Prop where
  keep : ∀ b o, b ≠ x → h.get? b = some o → h'.get? b = some o
  obj : h'.get? x = some { cls := .ref C, dict := some dx, data := .fields #[.ref t1, .none, .none, .none, .bool false, .none] }
  dbig : h.objs.size ≤ dx
  dne : dx ≠ x
  ns : h'.Ns1 dx (fun y => if y = f then some v else none)
theorem ldX {M : Model} {s : Shared} {A : Around} {E : Value → Shared → Prop} {env : PySem.Env} {m : Str → Option Value} {x : Str} {pos : Pos} {v : Value} {Q : Value → Shared → Prop} (hn : s.heap.Ns env.locals m) (hv : m x = some v) (h : Q v s)
    (hk : env.scope.kind = .function) (hl : env.kindOf x = some .local) (hd : (x == ("__debug__" : Str)) = false) : wpAny M A (eval (.Name x pos) env) Q E s := wpAny_Name (wpAny_loadName_local hk hl hn hv h) hd
theorem one_le_line {v : Value} : [v].length ≤ sizeLine := by
  rw [sizeLine_eq]
  exact (by decide : 1 ≤ 16777216)
section
variable {prog : Program} {w : World} {A : Around} {E : Value → Shared → Prop} {R : Result → Shared → Prop} {s : Shared} {K : Frag} {mg mb : Str → Option Value} {x : Str} {C fI : Addr} {f : Str}
/-- ValueError.__init__ of a bound wrapper -/
theorem call_mw {u e t0 : Addr} {rest : List Value} {nm q : Str} {N : Addr} {bs bm : List Value} {hdct : Bool} {sn : List Str} {sub : List Value} {ab : Bool} {col : Option Bool} {dd : Option Addr} {k0 k1 k2 k3 k5 : Option Value} {Q : Value → Shared → Prop}
    (hC : s.heap.get? C = some (excClassObj nm q C N bs bm hdct sn sub ab col dd k0 k1 k2 k3 k5 "ValueError.__new__")) (he : s.heap.get? e = some (excO C t0)) (hu : s.heap.get? u = some (kxs_mw "ValueError.__init__" e)) (hz : rest.length ≤ sizeLine)
    (fin : ∀ h' t1, (∀ b o, b ≠ e → s.heap.get? b = some o → h'.get? b = some o) → h'.get? e = some (excO C t1) → Q .none { s with heap := h' }) : wpAny (model prog w) A (call (.ref u) rest) Q E s := by
  obtain ⟨hh, g, d, tk, os⟩ := s
  refine wpAny_call (codeAny_of_tree ?_)
  show wpAny _ A.in1 (callAny (.ref u) ⟨rest, []⟩) _ _ _
  simp only [callAny]
  refine wpAny_bind (wpAny_load hu ?_)
  simp only [kxs_mw, show (Value.type "method-wrapper" == Value.type "method" || Value.type "method-wrapper" == Value.type "builtin_function_or_method" || Value.type "method-wrapper" == Value.type "method-wrapper") = true by decide, if_true]
  refine KFB.if_so (by decide) ?_
  refine wpAny_bind (check_bound_init F.excBase_ValueError.toExcCallFacts hC he rfl ?_)
  refine wpAny_bind (wpAny_pure (wpAny_pure ?_))
  refine ⟨plainId_quiet F.excBase_ValueError.init.plain _, codeAny_builtin F.excBase_ValueError.initEntry ?_⟩
  exact exc_init_tree (cls := .ref C) (t0 := t0) (dv := none) (c2 := .none) (c3 := .none) (b4 := .bool false) he hz fun h' k e' _ => fin h' _ k e'
theorem x_init (T : XTxt prog K mg x C fI f) {e : Addr} {t0 : Addr} {v : Value} (X : K.In s.heap) (hlim : s.heap.NoLimit) (hg : s.heap.Ns mainGlobals mg) (hb : s.heap.Ns builtinsNs mb) (hbb : ∀ x : Str, x ≠ "__name__" → mb x = bootBuiltins x)
    (hx : s.heap.get? e = some (excO C t0)) (hnx : K.lookup e = none) (hroom : A.depth < recursionLimit)
    (hq : ∀ h' tk dx t1, XEnd s.heap h' e C dx t1 f v → R (.ok (.ret .none)) { s with heap := h', toks := tk }) :
    codeAny (model prog w) A (.call (.ref fI) ⟨[.ref e, v], []⟩) R s := by
  obtain ⟨q, oc, od, doc, pm, an, cda, cc, ct, osl, p1, p2, q1, q2, q3, q4, q5, q6, q7, q8, q9, q10, j, msg, ccl, cdd, vs, ccs, file, tf, cl, cld, csl, ho, hcd, hcda, hvs, hfile, hcell, pl, hev⟩ := T.fn
  obtain ⟨nm, qq, N, bs, bm, sn, sub, ab, col, dd, k0, k1, k2, k3, k5, hC, hbm, hal⟩ := T.cls
  have hcl : clsIn K C = some { name := nm, bases := bs, mro := .ref C :: bm, ns := N, qualname := qq, hasDict := true, slotNames := sn, subclasses := sub, abstract := ab, collection := col, hasDel := false } := by unfold clsIn; rw [hC] <;> rfl
  have l1 : (xS f).names.lookup ("self" : Str) = some .local := xl1
  have l2 : (xS f).names.lookup f = some .local := xl2 T.f1
  have l3 : (xS f).names.lookup ("__class__" : Str) = some .free := xl3 T.f2
  have l4 : (xS f).names.lookup ("super" : Str) = some .globalImplicit := xl4 T.f3
  refine ks_codeAny_call_defAt (fd := fnX "__init__" q (xA f p1 p2) (xB f msg j q1 q2 q3 q4 q5 q6 q7 q8 q9 q10) (xS f) [("__class__", cc)] .none .none doc pm an (.ref cda) ct) (body := xB f msg j q1 q2 q3 q4 q5 q6 q7 q8 q9 q10) (binds := [("self", .ref e), (f, v)])
    hroom (X _ _ ho) rfl hlim (codeRec_of X hcd) rfl (BindsTo.of_eq (T.bd _ _ _ _ _ _ _ _ _ _ _ _)) (fun y hy => ?_) (fun y hy => ?_) (fun h₁ hns kk => ?_)
  · have : y = (PySem.Str.ofString "self", NameKind.local) ∨ y = (f, .local) ∨ y = (PySem.Str.ofString "__class__", .free) ∨ y = (PySem.Str.ofString "super", .globalImplicit) := by simpa [xS] using hy
    rcases this with rfl | rfl | rfl | rfl <;> exact fun z => nomatch z
  · have : y = (("self" : Str), Value.ref e) ∨ y = (f, v) := by simpa using hy
    rcases this with rfl | rfl
    · exact l1
    · exact l2
  have X₁ : K.In h₁ := X.keeps kk
  have hx₁ := kk _ _ hx
  have hself : List.lookup ("self" : Str) [(("self" : Str), Value.ref e), (f, v)].reverse = some (.ref e) := by
    show List.lookup ("self" : Str) [(f, v), (("self" : Str), Value.ref e)] = _
    have q : ((("self" : Str)) == f) = false := by simpa using Ne.symm T.f1
    simp [List.lookup, q]
  have hfv : List.lookup f [(("self" : Str), Value.ref e), (f, v)].reverse = some v := by
    show List.lookup f [(f, v), (("self" : Str), Value.ref e)] = _
    simp [List.lookup]
  have sup : ∀ {Q : Value → Shared → Prop} {E : Value → Shared → Prop} {A : Around} {h : Heap} {tk : Nat} {L a : Addr}, (∀ b o, s.heap.get? b = some o → h.get? b = some o) → Q (.type "super") { s with heap := h, toks := tk } →
      wpAny (model prog w) A (loadName (envX q (xS f) L a (.ref cda) [("__class__", cc)]) "super") Q E { s with heap := h, toks := tk } := fun {Q E A h tk L a} k hQ => by
    refine ks_loadName_global rfl l4 (loadGlobal_builtin (env := envX q (xS f) L a (.ref cda) [("__class__", cc)]) (hg.keeps k) T.sup (hb.keeps k) ((hbb _ (by decide +kernel)).trans (by first | boot_by_name | rfl | kernel_rfl)) hQ)
  have hsub : Looks (model prog w) h₁ (isSubtype (.ref C) (.ref C)) true := looks_mroIn X₁ (by unfold mroIn; rw [hcl]; simp)
  have hve : Looks (model prog w) h₁ (typeOf (.ref e)) (.ref C) := fun A Q E s k q => wpAny_typeOf_ref (k _ _ hx₁) q
  have hC₁ := X₁ _ _ hC
  refine ks_wpAt_execs_cons (ks_wpAt_Expr_any (ks_wpAt_MethodCall ?_ (hev _)) rfl rfl)
  refine ks_wpAt_super_base (env := envX q (xS f) s.heap.objs.size fI (.ref cda) [("__class__", cc)]) l4 l3 (by decide) rfl (X₁ _ _ ho) rfl rfl rfl (X₁ _ _ hcda) rfl hvs hfile T.top ?_
  refine sup kk ⟨rfl, ?_⟩
  refine wpAny_loadName_free rfl l3 (by rfl) ⟨_, X₁ _ _ hcell, rfl⟩ ?_
  refine wpAny_loadName_local rfl l1 hns hself ?_
  refine ks_wpAny_isType_cls hC₁ rfl ⟨rfl, ?_⟩
  refine ks_wpAny_call_super hC₁ rfl hx₁ rfl (fun c z => by cases z) hsub (fun h₂ hso k₂ => ?_)
  have X₂ : K.In h₂ := X₁.keeps k₂
  have hx₂ := k₂ _ _ hx₁
  have hec : e ≠ C := fun z => by rw [z, hC] at hnx; cases hnx
  have hI : Looks (model prog w) h₂ (isInstance (.ref e) (.type "ValueError")) true := (show Looks (model prog w) h₂ (typeOf (.ref e)) (.ref C) from fun A Q E s k q => wpAny_typeOf_ref (k _ _ hx₂) q).andThen (looks_subIn X₂ T.veC)
  refine kxs_getMethod kxs_ValueError hso (looks_opaque X₂ T.opq) (l₀ := .ref C :: bm) (l := bm) (fun A Q E s k q => wpAny_bind ((looks_clsIn X₂ hcl) A _ E s k (wpAny_pure q))) (by simp [List.dropWhile_cons]) X₂ hal hI hec (by decide) ?_
  have k₃ : ∀ b o, h₂.get? b = some o → (h₂.push (kxs_mw "ValueError.__init__" e)).get? b = some o := fun b o z => Heap.get?_push_of_some _ z
  refine kxs_callWith (i := "ValueError.__init__") (x := e) rfl ?_
  refine evalArgs_plain ?_
  refine Calls.spliced_cons ?_
  refine Calls.Constant_str (k := j) (pos := q4) ?_
  refine Calls.spliced_nil ⟨?_, ?_⟩
  · exact Heap.get?_push_size _ rfl
  refine call_mw (k₃ _ _ (X₂ _ _ hC)) (k₃ _ _ hx₂) (Heap.get?_push_size _ rfl) (one_le_line) fun h₄ t1 k₄ hx₄ => ?_
  have kA : ∀ b o, b ≠ e → s.heap.get? b = some o → h₄.get? b = some o := fun b o hb z => k₄ b o hb (k₃ _ _ (k₂ _ _ (kk _ _ z)))
  have X₄ : K.In h₄ := fun b o z => kA b o (fun y => by rw [y, hnx] at z; cases z) (X b o z)
  have hL : e ≠ s.heap.objs.size := Nat.ne_of_lt (Heap.lt_size hx)
  have hns₄ : h₄.Ns s.heap.objs.size fun y => List.lookup y [(("self" : Str), Value.ref e), (f, v)].reverse := by
    obtain ⟨o, es, ep, ho, r⟩ := hns
    exact ⟨o, es, ep, k₄ _ _ hL.symm (k₃ _ _ (k₂ _ _ ho)), r⟩
  refine wpAt_of_wpAny ?_
  refine wpAny_execs_cons (plainObj_wpAny_Assign_Attribute ?_)
  refine ldX hns₄ hfv ?_ rfl l2 T.f4
  refine ldX hns₄ hself ?_ rfl l1 (by decide)
  refine set_plain X₄ (ox := excO C t1) (od := none) ⟨hx₄, rfl, rfl, trivial⟩ T.sa ?_
  refine exc_osa X₄ hx₄ hcl (show refsVE (.ref C :: bm) = true from hbm) rfl T.noN (fun h₅ tk₅ dx k₅ dn dne hx₅ hn₅ => ?_)
  refine wpAny_execs_nil (hq h₅ tk₅ dx t1 ⟨fun b o hb z => k₅ b o hb (kA b o hb z), hx₅, ?_, dne, hn₅⟩)
  have z : s.heap.objs.size < h₄.objs.size := hns₄.lt
  exact Nat.le_of_lt (Nat.lt_of_lt_of_le z dn)
/-- a made exception -/
structure XMade (h h' : Heap) (e C d : Addr) (f : Str) (v : Value) : Prop where
  keep : ∀ b o, h.get? b = some o → h'.get? b = some o
  new : h.objs.size ≤ e
  obj : ∃ oe vs, h'.get? e = some oe ∧ oe.cls = .ref C ∧ oe.dict = some d ∧ oe.data = .fields vs ∧ vs[1]? = some .none
  dbig : h.objs.size ≤ d
  dne : d ≠ e
  ns : h'.Ns1 d (fun y => if y = f then some v else none)
theorem x_made (T : XTxt prog K mg x C fI f) {v : Value} (X : K.In s.heap) (hlim : s.heap.NoLimit) (hg : s.heap.Ns mainGlobals mg) (hb : s.heap.Ns builtinsNs mb) (hbb : ∀ x : Str, x ≠ "__name__" → mb x = bootBuiltins x) (hroom : A.depth + 1 < recursionLimit)
    (hq : ∀ h' tk e d, XMade s.heap h' e C d f v → R (.ok (.ret (.ref e))) { s with heap := h', toks := tk }) :
    codeAny (model prog w) A (.call (.ref C) ⟨[v], []⟩) R s := by
  obtain ⟨nm, q, N, bs, bm, sn, sub, ab, col, dd, k0, k1, k2, k3, k5, hC, hbm, hal⟩ := T.cls
  obtain ⟨hp, g, dr, tk, os⟩ := s
  have k : ∀ b o, hp.get? b = some o → ((hp.push (kdv_tup [v])).push (excO C hp.objs.size)).get? b = some o := fun b o e => Heap.get?_push_of_some _ (Heap.get?_push_of_some _ e)
  have hget : ((hp.push (kdv_tup [v])).push (excO C hp.objs.size)).get? (hp.objs.size + 1) = some (excO C hp.objs.size) := by heap_get
  have hnx : K.lookup (hp.objs.size + 1) = none := by
    cases e : K.lookup (hp.objs.size + 1) with
    | none => rfl
    | some o =>
      have z : hp.get? (hp.objs.size + 1) = some o := X _ _ e
      exact absurd (Nat.lt_of_succ_lt (Heap.lt_size z)) (Nat.lt_irrefl _)
  refine call_own F.excBase_ValueError (fun X => refsVE_contains X bm hbm) (X _ _ hC) (looks_findIn X T.iC) (fun self => bind_fn X self T.tC) one_le_line ?_
  refine x_init (s := ⟨(hp.push (kdv_tup [v])).push (excO C hp.objs.size), g, dr, tk, os⟩) T (X.keeps k) (hlim.keeps k) (hg.keeps k) (hb.keeps k) hbb hget hnx ?_ fun h' tk' dx t1 ⟨k', hx, dn, dne, hns⟩ => ?_
  · show A.depth + 1 < recursionLimit
    exact hroom
  · have old : ∀ b o, hp.get? b = some o → h'.get? b = some o := fun b o e => k' b o (Nat.ne_of_lt (Nat.lt_succ_of_lt (Heap.lt_size e))) (k b o e)
    have z : hp.objs.size + 1 + 1 ≤ dx := by
      first
        | (simpa only [Heap.size_push] using dn)
        | exact dn
        | (have q := dn; rw [Heap.size_push, Heap.size_push] at q; exact q)
    exact ⟨rfl, hq h' tk' (hp.objs.size + 1) dx ⟨old, Nat.le_succ _, ⟨_, _, hx, rfl, rfl, rfl, rfl⟩, Nat.le_trans (Nat.le_trans (Nat.le_succ _) (Nat.le_succ _)) z, dne, hns⟩⟩
end
end DL
namespace DL
open PySem PySem.Spec PyProof.Rows L2
theorem relO_x {v : V} {v' : Value} {f : Str} (r : RelV v v') (g : Str) : RelO (List.lookup g [(f, v)]) (if g = f then some v' else none) := by
  by_cases hw : g = f
  · subst hw
    rw [if_pos rfl]
    have q : List.lookup g [(g, v)] = some v := by simp [List.lookup]
    rw [q]
    exact r
  · rw [if_neg hw]
    have qw : (g == f) = false := by simpa using hw
    have q2 : List.lookup g [(f, v)] = none := by simp [List.lookup, qw]
    rw [q2]
    trivial
section
variable {X : Cx} {x : Str} {C fI : Addr} {f : Str}
/-- x(e) -/
def tMkX (C : Addr) (f : Str) (ta : TA) : St → Hp → XK → Prop := fun σ H Q => ta σ H fun vs H1 => ∃ v, vs = [v] ∧ ∀ d, H1 d = none → Q (.ref C) (some d) (upd H1 d (.xd [(f, v)]))
theorem pmk_x {a : Expr} {ta : TA} {p pos : Pos} {k : Nat} (T : XTxt X.prog X.K X.mg x C fI f) (hr : Room k X.A) (ha : PA X [a] ta) (hg : Gl X x := by rfl) (hdb : (x == ("__debug__" : Str)) = false := by decide)
    (he : starEach (a :: []) X.env = (false, eval a X.env) :: starEach [] X.env := by rfl) (hpl : (backTo pos (starEach [] X.env)).any (·.1) = false := by rfl) :
    PMk X (.Call (.Name x p) [a] [] pos) (tMkX C f ta) := by
  intro pins s σ H Q I h
  refine wpAny_Call_Name_kw (ld_glob I hg T.gC ?_ hdb)
  refine PySem.W.callWith_K (h₀ := X.base) I.ok.mod.kin T.kC (thn (ha.run pos pins s σ H _ I h) fun us s1 hh => ?_) he hpl
  obtain ⟨vs, H1, I1, r1, v, ev, q1⟩ := hh
  subst ev
  refine ⟨I1.kIn, ?_⟩
  cases r1 with
  | cons rv rn =>
    rename_i v' us'
    cases rn
    show wpAny _ _ (call (.ref C) [v']) _ _ _
    have hlim := I1.nolimit
    have hgl : s1.heap.Ns mainGlobals X.mg := I1.mod.glob.keeps I1.bk
    obtain ⟨mb, hb1, hb2⟩ := I1.mod.blt
    have hbl := hb1.keeps I1.bk
    obtain ⟨hp, g, dr, tk, os⟩ := s1
    refine wpAny_call (x_made T I1.kIn hlim hgl hbl hb2 (by have := hr.dp; omega) fun h' tk' e d M => ?_)
    show MkP X pins σ Q (.ref e) ⟨h', g, dr, tk', os⟩
    obtain ⟨oe, fv, hoe, hc, hd, hdat, h1⟩ := M.obj
    have hns := M.ns
    obtain ⟨G', g1, g2⟩ := restrict h' fun b => decide (b ≠ e)
    have gk : ∀ b, b ≠ e → G'.get? b = h'.get? b := fun b hb => g1 b (decide_eq_true hb)
    have ge : G'.get? e = none := g2 e (by simp)
    have old : ∀ b o, hp.get? b = some o → G'.get? b = some o := fun b o q => (gk b (Nat.ne_of_lt (Nat.lt_of_lt_of_le (Heap.lt_size q) M.new))).trans (M.keep b o q)
    have ob : ObjOk X.prog X.w (upd H1 d (.xd [(f, v)])) G' d (.xd [(f, v)]) :=
      ⟨_, hns.at (fun o q => (gk d M.dne).trans q), fun g => relO_x rv g⟩
    have J : Inv X pins σ (upd H1 d (.xd [(f, v)])) ⟨G', g, dr, tk', os⟩ := I1.laid (t' := tk') old M.dbig ob
    refine ⟨e, oe, fv, ⟨G', g, dr, tk', os⟩, _, .ref C, some d, rfl, J, fun b o q => ?_, ge, hoe, ⟨hc, hd⟩, hdat, h1, ?_, rfl, I1.bare, raises_own T.exC T.tyC, q1 d (I1.hok.fresh M.dbig)⟩
    · by_cases hb : b = e
      · have q' : G'.get? b = some o := q
        rw [hb, ge] at q'; cases q'
      · exact (gk b hb).symm.trans q
    · rw [upd_ne (Ne.symm M.dne)]
      exact I1.hok.fresh M.new
end
section
variable {A : Act} {ρ : List Sl} {J : Res} {nx bk ct : List Sl → Res → Prop} {rt : Sl → Res → Prop} {e : Expr} {p pos pos2 : Pos} {x : Str} {C fI : Addr} {f : Str} {k : Nat}
/-- raise x(e) -/
theorem ws_raise (hc : A.X.calm = true) (tk : Takes A.X fun cls d _ H => A.E cls d H) (T : XTxt A.X.prog A.X.K A.X.mg x C fI f) (hr : Room k A.X.A) (h : We A e ρ J fun r => ∃ d, r = .dat d ∧ A.px ⟨C, f, d⟩ J) (hg : Gl A.X x := by rfl) (hdb : (x == ("__debug__" : Str)) = false := by decide)
    (he : starEach (e :: []) A.X.env = (false, eval e A.X.env) :: starEach [] A.X.env := by rfl) (hpl : (backTo pos (starEach [] A.X.env)).any (·.1) = false := by rfl) : Ws A (.Raise (some (.Call (.Name x p) [e] [] pos)) none pos2) ρ J nx rt bk ct := .mk fun W σ D E X kk => by
  refine s_at (ps_raise hc tk (pmk_x T hr (pa_cons pe_sem pa_nil he) hg hdb he hpl)) ?_
  show tE A.X e σ W.H fun y H1 => ∃ v, [y] = [v] ∧ ∀ d, H1 d = none → A.E (.ref C) (some d) (upd H1 d (.xd [(f, v)]))
  refine h W σ _ E X fun r v W1 h1 s1 o1 => ⟨v, rfl, fun d hd => ?_⟩
  obtain ⟨z, rfl, hp⟩ := h1
  have E1 := (E.up s1).up (Stp.mine (o := .xd [(f, v)]) s1.h hd)
  exact X ⟨C, f, z⟩ J v d ⟨W1.B, upd W1.H d (.xd [(f, v)])⟩ hp E1.sat upd_same (E.up s1 |>.ok.free hd) o1.1
end
end DL

namespace DL
open PySem PySem.Spec PyProof.Rows L2
/-! ### resources -/
structure Cv (J J' : Res) : Prop where
  p : ∀ B H, J.P B H → J'.P B H
  f : ∀ z, J'.fp z → J.fp z
def Res.star (J1 J2 : Res) : Res := ⟨fun B H => J1.P B H ∧ J2.P B H ∧ ∀ x, J1.fp x → ¬ J2.fp x, fun x => J1.fp x ∨ J2.fp x,
  fun B H B' H' s k c t h => ⟨J1.mono B H B' H' s (fun a o f e => k a o (.inl f) e) c t h.1, J2.mono B H B' H' s (fun a o f e => k a o (.inr f) e) c t h.2.1, h.2.2⟩⟩
theorem Cv.refl {J : Res} : Cv J J := ⟨fun _ _ h => h, fun _ h => h⟩
theorem Cv.trans {J J1 J2 : Res} (a : Cv J J1) (b : Cv J1 J2) : Cv J J2 := ⟨fun B H h => b.p B H (a.p B H h), fun z h => a.f z (b.f z h)⟩
theorem Cv.comm {J1 J2 : Res} : Cv (J1.star J2) (J2.star J1) := ⟨fun _ _ h => ⟨h.2.1, h.1, fun x a b => h.2.2 x b a⟩, fun _ h => h.elim .inr .inl⟩
theorem Cv.assoc {J1 J2 J3 : Res} : Cv ((J1.star J2).star J3) (J1.star (J2.star J3)) := ⟨fun _ _ h => ⟨h.1.1, ⟨h.1.2.1, h.2.1, fun x a b => h.2.2 x (.inr a) b⟩, fun x a b => b.elim (fun z => h.1.2.2 x a z) (fun z => h.2.2 x (.inl a) z)⟩,
  fun _ h => h.elim (fun z => .inl (.inl z)) fun z => z.elim (fun z => .inl (.inr z)) .inr⟩
theorem Cv.assoc' {J1 J2 J3 : Res} : Cv (J1.star (J2.star J3)) ((J1.star J2).star J3) := ⟨fun _ _ h => ⟨⟨h.1, h.2.1.1, fun x a b => h.2.2 x a (.inl b)⟩, h.2.1.2.1, fun x a b => a.elim (fun z => h.2.2 x z (.inr b)) (fun z => h.2.1.2.2 x z b)⟩,
  fun _ h => h.elim (fun z => z.elim .inl fun z => .inr (.inl z)) fun z => .inr (.inr z)⟩
theorem Cv.emp {J : Res} : Cv J (J.star .emp) := ⟨fun _ _ h => ⟨h, True.intro, fun _ _ z => z⟩, fun _ h => h.elim id fun z => z.elim⟩
theorem Cv.fst {J1 J2 : Res} : Cv (J1.star J2) J1 := ⟨fun _ _ h => h.1, fun _ h => .inl h⟩
theorem Cv.snd {J1 J2 : Res} : Cv (J1.star J2) J2 := ⟨fun _ _ h => h.2.1, fun _ h => .inr h⟩
theorem Cv.cong {J1 J2 J1' J2' : Res} (a : Cv J1 J1') (b : Cv J2 J2') : Cv (J1.star J2) (J1'.star J2') := ⟨fun B H h => ⟨a.p B H h.1, b.p B H h.2.1, fun x y z => h.2.2 x (a.f x y) (b.f x z)⟩, fun z h => h.elim (fun q => .inl (a.f z q)) fun q => .inr (b.f z q)⟩
theorem Env.conv {K : PySem.W.Frag} {M : Md} {J J' : Res} {W0 W : Wd} {σ : St} {ρ : List Sl} (c : Cv J J') (E : Env K M J W0 W σ ρ) : Env K M J' W0 W σ ρ :=
  ⟨E.ok, E.st, E.len, E.sl, E.ds, c.p _ _ E.res, fun a h => E.sep a (c.f a h), fun i p r a b e z => E.nof i p r a b e (c.f p z), E.nob, E.nt⟩
theorem RtOk.conv {K : PySem.W.Frag} {J J' : Res} {W0 W : Wd} {σ : St} {ρ : List Sl} {v : V} {r : Sl} (c : Cv J J') (o : RtOk K J W0 W σ ρ v r) : RtOk K J' W0 W σ ρ v r := ⟨o.1, fun m p e z => o.2.1 m p e (c.f p z), o.2.2⟩
/-- a field of an object -/
def FOk (K : PySem.W.Frag) (B : Hp) (v : V) : Sl → Prop
  | .dat d => Dp K B v d
  | .raw u => v = u
  | .fct F => F.P K B v
  | _ => False
inductive FsOk (K : PySem.W.Frag) (B : Hp) : List (Str × V) → List (Str × Sl) → Prop
  | nil : FsOk K B [] []
  | cons {f : Str} {v : V} {r : Sl} {vs : List (Str × V)} {rs : List (Str × Sl)} : FOk K B v r → FsOk K B vs rs → FsOk K B ((f, v) :: vs) ((f, r) :: rs)
section
variable {K : PySem.W.Frag} {B B' : Hp}
theorem FOk.up {v : V} {r : Sl} (s : Same B B') (h : FOk K B v r) : FOk K B' v r := by
  cases r with
  | dat d => exact Dp.up s h
  | raw u => exact h
  | fct F => exact F.mono s h
  | _ => exact h
theorem FsOk.up {vs : List (Str × V)} {rs : List (Str × Sl)} (s : Same B B') (h : FsOk K B vs rs) : FsOk K B' vs rs := by
  induction h with
  | nil => exact .nil
  | cons a b ih => exact .cons (a.up s) ih
theorem FsOk.get {vs : List (Str × V)} {rs : List (Str × Sl)} {f : Str} {r : Sl} (h : FsOk K B vs rs) (e : rs.lookup f = some r) : ∃ v, vs.lookup f = some v ∧ FOk K B v r := by
  induction h with
  | nil => cases e
  | @cons g v r' vs rs a b ih =>
    unfold List.lookup at e ⊢
    cases q : f == g with
    | true =>
      rw [q] at e
      have e' := Option.some.inj e
      subst e'
      exact ⟨v, rfl, a⟩
    | false =>
      rw [q] at e
      exact ih e
theorem FsOk.non {vs : List (Str × V)} {rs : List (Str × Sl)} {f : Str} (h : FsOk K B vs rs) (e : rs.lookup f = none) : vs.lookup f = none := by
  induction h with
  | nil => rfl
  | @cons g v r' vs rs a b ih =>
    unfold List.lookup at e ⊢
    cases q : f == g with
    | true => rw [q] at e; cases e
    | false =>
      rw [q] at e
      exact ih e
theorem FsOk.len {vs : List (Str × V)} {rs : List (Str × Sl)} (h : FsOk K B vs rs) : vs.length = rs.length := by
  induction h with
  | nil => rfl
  | cons a b ih => exact congrArg (· + 1) ih
def putS (f : Str) (r : Sl) : List (Str × Sl) → List (Str × Sl)
  | [] => [(f, r)]
  | (g, x) :: q => if g = f then (g, r) :: q else (g, x) :: putS f r q
theorem FsOk.put {vs : List (Str × V)} {rs : List (Str × Sl)} {f : Str} {v : V} {r : Sl} (h : FsOk K B vs rs) (o : FOk K B v r) : FsOk K B (putF f v vs) (putS f r rs) := by
  induction h with
  | nil => exact .cons o .nil
  | @cons g v' r' vs rs a b ih =>
    unfold putF putS
    by_cases c : g = f
    · rw [if_pos c, if_pos c]
      exact .cons o b
    · rw [if_neg c, if_neg c]
      exact .cons a ih
end
/-- an object that may change -/
def Res.ins (K : PySem.W.Frag) (a C : Addr) (rs : List (Str × Sl)) : Res := ⟨fun B H => ∃ dx vs, H a = some (.ins C dx vs) ∧ FsOk K B vs rs, fun z => z = a, fun _ _ _ _ s k _ _ ⟨dx, vs, e, f⟩ => ⟨dx, vs, k _ _ rfl e, f.up s⟩⟩
/-- a list that may change -/
def Res.lst (K : PySem.W.Frag) (p : Addr) (ds : List PyData) : Res := ⟨fun B H => ∃ vs, H p = some (.lst vs) ∧ DpAll K B vs ds, fun z => z = p, fun _ _ _ _ s k _ _ ⟨vs, e, f⟩ => ⟨vs, k _ _ rfl e, DpAll.up s f⟩⟩
/-- the code tables -/
def Res.tabs (T : List (Addr × Str)) : Res := ⟨fun _ H => LamX.Tabs T H, fun _ => False, fun B H B' H' s k c t h => t T h⟩
/-- a resource that leans on no code table -/
def Res.Fr (F : Res) : Prop := ∀ (B H B' H' : Hp), Same B B' → (∀ a o, F.fp a → H a = some o → H' a = some o) → F.P B H → F.P B' H'
theorem fr_emp : Res.Fr .emp := fun _ _ _ _ _ _ _ => True.intro
theorem fr_star {J1 J2 : Res} (a : J1.Fr) (b : J2.Fr) : (J1.star J2).Fr := fun B H B' H' s k h => ⟨a B H B' H' s (fun x o f e => k x o (.inl f) e) h.1, b B H B' H' s (fun x o f e => k x o (.inr f) e) h.2.1, h.2.2⟩
theorem fr_ins {K : PySem.W.Frag} {a C : Addr} {rs : List (Str × Sl)} : (Res.ins K a C rs).Fr := fun _ _ _ _ s k ⟨dx, vs, e, f⟩ => ⟨dx, vs, k _ _ rfl e, f.up s⟩
theorem fr_lst {K : PySem.W.Frag} {p : Addr} {ds : List PyData} : (Res.lst K p ds).Fr := fun _ _ _ _ s k ⟨vs, e, f⟩ => ⟨vs, k _ _ rfl e, DpAll.up s f⟩
/-- a resource that may lean on the code tables -/
def Res.FrT (F : Res) : Prop := ∀ (B H B' H' : Hp), Same B B' → (∀ a o, F.fp a → H a = some o → H' a = some o) → (∀ T, LamX.Tabs T H → LamX.Tabs T H') → F.P B H → F.P B' H'
theorem Res.Fr.t {F : Res} (h : F.Fr) : F.FrT := fun B H B' H' s k _ p => h B H B' H' s k p
theorem frT_tabs {T : List (Addr × Str)} : (Res.tabs T).FrT := fun _ _ _ _ _ _ t h => t T h
theorem frT_star {J1 J2 : Res} (a : J1.FrT) (b : J2.FrT) : (J1.star J2).FrT := fun B H B' H' s k t h => ⟨a B H B' H' s (fun x o f e => k x o (.inl f) e) t h.1, b B H B' H' s (fun x o f e => k x o (.inr f) e) t h.2.1, h.2.2⟩
def Res.top (F : Res) : Res := ⟨fun _ _ => True, F.fp, fun _ _ _ _ _ _ _ _ _ => True.intro⟩
/-- an object that lasts -/
def insF (C : Addr) (rs : List (Str × Sl)) : Fct := ⟨fun K B v => ∃ a dx vs, v = .ref a ∧ B a = some (.ins C dx vs) ∧ FsOk K B vs rs, fun s ⟨a, dx, vs, e1, e2, e3⟩ => ⟨a, dx, vs, e1, s _ _ e2, e3.up s⟩⟩
/-! ### impure expressions -/
def Wkj (A : Act) (ρ : List Sl) (R : Sl → Res → Prop) (W : Wd) (σ : St) (Q : VK) : Prop := ∀ (r : Sl) (J' : Res) (v : V) (W1 : Wd), R r J' → Same W.B W1.B → EnvA A J' W1 σ ρ → RtA A J' W1 σ ρ v r → Q v W1.H
def WjT (A : Act) (e : Expr) (ρ : List Sl) (J : Res) (R : Sl → Res → Prop) : Prop := ∀ (W : Wd) (σ : St) (Q : VK), EnvA A J W σ ρ → Exits A → Wkj A ρ R W σ Q → tE A.X e σ W.H Q
structure Wj (A : Act) (e : Expr) (ρ : List Sl) (J : Res) (R : Sl → Res → Prop) : Prop where
  run : WjT A e ρ J R
instance (A : Act) (e : Expr) (ρ : List Sl) (J : Res) (R : Sl → Res → Prop) : CoeFun (Wj A e ρ J R) (fun _ => WjT A e ρ J R) := ⟨Wj.run⟩
def WajT (A : Act) (es : List Expr) (ρ : List Sl) (J : Res) (R : List Sl → Res → Prop) : Prop := ∀ (W : Wd) (σ : St) (Q : List V → Hp → Prop), EnvA A J W σ ρ → Exits A →
  (∀ (rs : List Sl) (J' : Res) (vs : List V) (W1 : Wd), R rs J' → Same W.B W1.B → EnvA A J' W1 σ ρ → Paired (fun v r => RtA A J' W1 σ ρ v r) vs rs → Q vs W1.H) → tA A.X es σ W.H Q
structure Waj (A : Act) (es : List Expr) (ρ : List Sl) (J : Res) (R : List Sl → Res → Prop) : Prop where
  run : WajT A es ρ J R
instance (A : Act) (es : List Expr) (ρ : List Sl) (J : Res) (R : List Sl → Res → Prop) : CoeFun (Waj A es ρ J R) (fun _ => WajT A es ρ J R) := ⟨Waj.run⟩
def WtjT (A : Act) (e : Expr) (ρ : List Sl) (J : Res) (R : Bool → Res → Prop) : Prop := ∀ (W : Wd) (σ : St) (Q : Bool → Hp → Prop), EnvA A J W σ ρ → Exits A → (∀ (b : Bool) (J' : Res) (W1 : Wd), R b J' → Same W.B W1.B → EnvA A J' W1 σ ρ → Q b W1.H) → tT A.X e σ W.H Q
structure Wtj (A : Act) (e : Expr) (ρ : List Sl) (J : Res) (R : Bool → Res → Prop) : Prop where
  run : WtjT A e ρ J R
instance (A : Act) (e : Expr) (ρ : List Sl) (J : Res) (R : Bool → Res → Prop) : CoeFun (Wtj A e ρ J R) (fun _ => WtjT A e ρ J R) := ⟨Wtj.run⟩
def WwjT (A : Act) (e : Expr) (ρ : List Sl) (J : Res) (R : Bool → Res → Prop) : Prop := ∀ (W : Wd) (σ : St) (Q : Bool → Hp → Prop), EnvA A J W σ ρ → Exits A → (∀ (b : Bool) (J' : Res) (W1 : Wd), R b J' → Same W.B W1.B → EnvA A J' W1 σ ρ → Q b W1.H) → tW A.X e σ W.H Q
structure Wwj (A : Act) (e : Expr) (ρ : List Sl) (J : Res) (R : Bool → Res → Prop) : Prop where
  run : WwjT A e ρ J R
instance (A : Act) (e : Expr) (ρ : List Sl) (J : Res) (R : Bool → Res → Prop) : CoeFun (Wwj A e ρ J R) (fun _ => WwjT A e ρ J R) := ⟨Wwj.run⟩
section
variable {A : Act} {ρ : List Sl} {J : Res} {R : Sl → Res → Prop} {a b e : Expr} {es : List Expr} {pos : Pos} {W W1 : Wd} {σ : St} {Q : VK} {nx bk ct : List Sl → Res → Prop} {rt : Sl → Res → Prop} {sts : List Stmt}
theorem Wkj.from (h : Wkj A ρ R W σ Q) (s : Same W.B W1.B) : Wkj A ρ R W1 σ Q := fun r J' v W2 hr s2 E o => h r J' v W2 hr (s.trans s2) E o
theorem Wkj.pure (h : Wkj A ρ R W σ Q) (E : EnvA A J W σ ρ) : Wk A ρ J (fun r => R r J) W σ Q := fun r v W1 hr s o => h r J v W1 hr s.b (E.up s) o
theorem wj_of (h : We A e ρ J fun r => R r J) : Wj A e ρ J R := .mk fun W σ Q E X k => h W σ Q E X (k.pure E)
theorem wj_conv {J' : Res} (c : Cv J J') (h : Wj A e ρ J' R) : Wj A e ρ J R := .mk fun W σ Q E X k => h W σ Q (E.conv c) X k
theorem waj_of {R : List Sl → Res → Prop} (h : Wa A es ρ J fun rs => R rs J) : Waj A es ρ J R := .mk fun W σ Q E X k => h W σ Q E X fun rs vs W1 hr s o => k rs J vs W1 hr s.b (E.up s) o
theorem waj_cons {R : List Sl → Res → Prop} (h : Wj A e ρ J fun r J1 => Wa A es ρ J1 fun rs => R (r :: rs) J1) (hs : starEach (e :: es) A.X.env = (false, eval e A.X.env) :: starEach es A.X.env := by rfl) : Waj A (e :: es) ρ J R := .mk fun W σ Q E X k => by
  refine a_at (pa_cons pe_sem pa_sem hs) ?_
  show tE A.X e σ W.H fun x H1 => tA A.X es σ H1 fun xs H2 => Q (x :: xs) H2
  refine h W σ _ E X fun r J1 v W1 h1 s1 E1 o1 => h1 W1 σ _ E1 X fun rs vs W2 h2 s2 o2 => ?_
  exact k (r :: rs) J1 (v :: vs) W2 h2 (s1.trans s2.b) (E1.up s2) (.cons (o1.up s2) o2)
theorem wtj_of {R : Bool → Res → Prop} (h : Wt A e ρ J fun b => R b J) : Wtj A e ρ J R := .mk fun W σ Q E X k => h W σ Q E X fun b W1 hr s => k b J W1 hr s.b (E.up s)
theorem wtj_val {R : Bool → Res → Prop} (h : Wj A e ρ J fun r J' => ∃ k, r = .dat (.bool k) ∧ R k J') (he : ∀ whole, isTrue e A.X.env whole = (do let v ← whole; standAt e.pos; holding [v] (truthy v)) := by intro _; rfl) : Wtj A e ρ J R := .mk fun W σ Q E X k => by
  refine t_at (pt_val pe_sem he) ?_
  show tE A.X e σ W.H fun x H1 => ∃ c, x = .bl c ∧ Q c H1
  refine h W σ _ E X fun r1 J1 v1 W1 h1 s1 E1 o1 => ?_
  obtain ⟨kk, rfl, hk⟩ := h1
  exact ⟨kk, dp_bl o1.1, k kk J1 W1 hk s1 E1⟩
theorem wtj_not {R : Bool → Res → Prop} (h : Wtj A e ρ J fun b => R (!b)) : Wtj A (.UnaryOp .Not e pos) ρ J R := .mk fun W σ Q E X k => by
  refine t_at (pt_not pt_sem) ?_
  show tT A.X e σ W.H fun c H1 => Q (!c) H1
  exact h W σ _ E X fun c J1 W1 h1 s1 => k _ J1 W1 h1 s1
theorem wwj_and1 {R : Bool → Res → Prop} (h : Wtj A a ρ J R) : Wwj A (.BoolOp .And [a] pos) ρ J R := .mk fun W σ Q E X k => w_at (pw_and1 pt_sem) (h W σ Q E X k)
theorem wwj_or1 {R : Bool → Res → Prop} (h : Wtj A a ρ J R) : Wwj A (.BoolOp .Or [a] pos) ρ J R := .mk fun W σ Q E X k => w_at (pw_or1 pt_sem) (h W σ Q E X k)
theorem wwj_and {R : Bool → Res → Prop} (h : Wtj A a ρ J fun k J' => if k = true then Wwj A (.BoolOp .And (b :: es) pos) ρ J' R else R false J') : Wwj A (.BoolOp .And (a :: b :: es) pos) ρ J R := .mk fun W σ Q E X k => by
  refine w_at (pw_and pt_sem pw_sem) ?_
  show tT A.X a σ W.H fun c H1 => if c = true then tW A.X _ σ H1 Q else Q false H1
  refine h W σ _ E X fun c J1 W1 h1 s1 E1 => ?_
  cases c with
  | true => exact iteT ((show Wwj A (.BoolOp .And (b :: es) pos) ρ J1 R from h1) W1 σ Q E1 X fun d J2 W2 h2 s2 => k d J2 W2 h2 (s1.trans s2))
  | false => exact iteF (k false J1 W1 h1 s1 E1)
theorem wwj_or {R : Bool → Res → Prop} (h : Wtj A a ρ J fun k J' => if k = true then R true J' else Wwj A (.BoolOp .Or (b :: es) pos) ρ J' R) : Wwj A (.BoolOp .Or (a :: b :: es) pos) ρ J R := .mk fun W σ Q E X k => by
  refine w_at (pw_or pt_sem pw_sem) ?_
  show tT A.X a σ W.H fun c H1 => if c = true then Q true H1 else tW A.X _ σ H1 Q
  refine h W σ _ E X fun c J1 W1 h1 s1 E1 => ?_
  cases c with
  | true => exact iteT (k true J1 W1 h1 s1 E1)
  | false => exact iteF ((show Wwj A (.BoolOp .Or (b :: es) pos) ρ J1 R from h1) W1 σ Q E1 X fun d J2 W2 h2 s2 => k d J2 W2 h2 (s1.trans s2))
theorem wtj_bool {R : Bool → Res → Prop} {op : BoolOp} (h : Wwj A (.BoolOp op es pos) ρ J R) : Wtj A (.BoolOp op es pos) ρ J R := .mk fun W σ Q E X k => t_at (PW.pt pw_sem) (h W σ Q E X k)
theorem wj_one {op} (h : Wj A a ρ J R) : Wj A (.BoolOp op [a] pos) ρ J R := .mk fun W σ Q E X k => e_at (pe_one pe_sem) (h W σ Q E X k)
theorem wj_and (h : Wj A a ρ J fun r J' => ∃ k, r = .dat (.bool k) ∧ if k = true then Wj A (.BoolOp .And (b :: es) pos) ρ J' R else R (.dat (.bool false)) J') : Wj A (.BoolOp .And (a :: b :: es) pos) ρ J R := .mk fun W σ Q E X k => by
  refine e_at (pe_and pe_sem pe_sem) ?_
  show tE A.X a σ W.H fun x H1 => ∃ c, x = .bl c ∧ if c = true then tE A.X _ σ H1 Q else Q (.bl false) H1
  refine h W σ _ E X fun r J1 v W1 h1 s1 E1 o1 => ?_
  obtain ⟨c, rfl, h1⟩ := h1
  refine ⟨c, dp_bl o1.1, ?_⟩
  cases c with
  | true => exact iteT ((show Wj A (.BoolOp .And (b :: es) pos) ρ J1 R from h1) W1 σ Q E1 X (k.from s1))
  | false => exact iteF (k (.dat (.bool false)) J1 (.bl false) W1 h1 s1 E1 RtA.bl)
/-! statements -/
theorem wss_conv {J' : Res} (c : Cv J J') (h : Wss A sts ρ J' nx rt bk ct) : Wss A sts ρ J nx rt bk ct := .mk fun W σ D E X k => h W σ D (E.conv c) X k
theorem ws_conv {J' : Res} {st : Stmt} (c : Cv J J') (h : Ws A st ρ J' nx rt bk ct) : Ws A st ρ J nx rt bk ct := .mk fun W σ D E X k => h W σ D (E.conv c) X k
theorem ws_setJ (i : Nat) {x : Str} {pos' : Pos} (h : Wj A e ρ J fun r J' => isBor r = false ∧ nx (ρ.set i r) J') (hN : A.X.N.Nodup) (hi : A.X.N[i]? = some x := by rfl) (hx : Loc A.X.env.scope x := by first | exact Or.inl rfl | exact Or.inr rfl)
    (hs : swapsWith e (some (.Name x pos')) pos.line A.X.env = pure false := by rfl) (hf : A.X.fn x = true ∨ A.X.env.scope.names.lookup x = some .local := by first | exact .inl rfl | exact .inr rfl) : Ws A (.Assign [.Name x pos'] e pos) ρ J nx rt bk ct := .mk fun W σ D E X k => by
  refine s_at (ps_set hN hi hx pe_sem hs hf) ?_
  show tE A.X e σ W.H fun x H1 => D.nx (σ.set i (some x)) H1
  refine h W σ _ E X fun r J1 v W1 h1 s1 E1 o1 => ?_
  exact k.nx _ J1 W1 _ h1.2 s1 (E1.set i o1 (nbor h1.1))
theorem ws_asgJ {tg : Expr} (h : Wj A e ρ J fun r J' => Wg A tg ρ J' r fun ρ' => nx ρ' J') (hs : swapsWithSole [tg] e pos.line A.X.env = pure false := by rfl) (hw : swappedStores [tg] e A.X.env = pure none := by rfl)
    (h1 : (assignEach [tg] A.X.env).map (·.2) = [assign tg A.X.env] := by rfl) : Ws A (.Assign [tg] e pos) ρ J nx rt bk ct := .mk fun W σ D E X k => by
  refine s_at (ps_asg pe_sem pg_sem hs hw h1) ?_
  show tE A.X e σ W.H fun x H1 => tG A.X tg x σ H1 D.nx
  refine h W σ _ E X fun r J1 v W1 h1 s1 E1 o1 => h1 W1 σ v _ E1 o1 fun ρ' σ' q E' => k.nx ρ' J1 W1 σ' q s1 E'
theorem ws_exprJ (h : Wj A e ρ J fun _ J' => nx ρ J') (hs : swapsWith e none pos.line A.X.env = pure false := by rfl) : Ws A (.Expr e pos) ρ J nx rt bk ct := .mk fun W σ D E X k => by
  refine s_at (ps_expr pe_sem hs) ?_
  show tE A.X e σ W.H fun _ H1 => D.nx σ H1
  exact h W σ _ E X fun r J1 v W1 h1 s1 E1 o1 => k.nx ρ J1 W1 σ h1 s1 E1
theorem ws_retJ (h : Wj A e ρ J fun r J' => rt (frz r) J') : Ws A (.Return (some e) pos) ρ J nx rt bk ct := .mk fun W σ D E X k => by
  refine s_at (ps_ret pe_sem) ?_
  show tE A.X e σ W.H D.rt
  refine h W σ _ E X fun r J1 v W1 h1 s1 E1 o1 => ?_
  obtain ⟨W2, e2, S, o2⟩ := frz_rt E1 o1
  rw [← e2]
  exact k.rt _ J1 W2 v h1 S o2
theorem ws_ifJ {c : Expr} {a b : List Stmt} (h : Wtj A c ρ J fun k J' => if k = true then Wss A a ρ J' nx rt bk ct else Wss A b ρ J' nx rt bk ct) : Ws A (.If c a b pos) ρ J nx rt bk ct := .mk fun W σ D E X k => by
  refine s_at (ps_if pt_sem pss_sem pss_sem) ?_
  show tT A.X c σ W.H fun b' H1 => if b' = true then tSs A.X a D σ H1 else tSs A.X b D σ H1
  refine h W σ _ E X fun b' J1 W1 h1 s1 E1 => ?_
  cases b' with
  | true => exact iteT ((show Wss A a ρ J1 nx rt bk ct from h1) W1 σ D E1 X (k.from s1))
  | false => exact iteF ((show Wss A b ρ J1 nx rt bk ct from h1) W1 σ D E1 X (k.from s1))
end
/-! ### calls that change something -/
theorem Env.call {K : PySem.W.Frag} {M : Md} {W0 W W' : Wd} {σ : St} {ρ : List Sl} {Jc F J' : Res} {mc : Addr → HO → Prop} (E : Env K M (Jc.star F) W0 W σ ρ) (nt : F.Fr)
    (hM : ∀ z o, mc z o → ((∃ ps, o = .tbl ps) ∧ M.m z o) ∨ (Jc.fp z ∧ (M.z z → M.m z o))) (S1 : Sat K ⟨mc, Jc.fp⟩ W J' W') : Env K M (J'.star F) W0 W' σ ρ := by
  have own : ∀ (i : Nat) (p : Addr) (q : Sl), ρ[i]? = some q → isOwn q = true → at_ σ i = some (.ref p) → ¬ Jc.fp p ∧ ¬ F.fp p := fun i p q h1 h2 h3 => ⟨fun z => E.nof i p q h1 h2 h3 (.inl z), fun z => E.nof i p q h1 h2 h3 (.inr z)⟩
  have oldB : ∀ p, W.B p = none → Nt W.H p → W'.B p = none := fun p h1 h2 => by
    cases q : W'.B p with
    | none => rfl
    | some o =>
      rcases S1.st.n p (by rw [q]; exact fun z => nomatch z) with z | z
      · exact absurd h1 z
      · exact absurd h2 z
  have ownH : ∀ (i : Nat) (p : Addr) (q : Sl) (vs : List V), ρ[i]? = some q → isOwn q = true → at_ σ i = some (.ref p) → W.H p = some (.lst vs) → W'.H p = some (.lst vs) := fun i p q vs h1 h2 h3 h4 => by
    refine S1.st.k p _ h4 fun z => ?_
    rcases hM p _ z with ⟨⟨ps, e⟩, _⟩ | ⟨h, _⟩
    · cases e
    · exact (own i p q h1 h2 h3).1 h
  refine ⟨S1.ok, E.st.trans' S1.st fun x o h e0 e1 => ?_, E.len, fun i r h => ?_, E.ds, ⟨S1.res, ?_, fun x h1 h2 => ?_⟩, fun a h => ?_, fun i p q h1 h2 h3 z => ?_, E.nob, E.nt⟩
  · rcases hM x o h with ⟨_, h⟩ | ⟨h1, h2⟩
    · exact h
    · have sp := (E.sep x (.inl h1)).2
      rcases sp.2 with z | z
      · exact h2 z
      · refine absurd ⟨o, e0, fun ps ho => ?_⟩ z
        obtain ⟨u, eu, nu⟩ := sp.1
        rw [e1] at eu
        exact nu ps ((Option.some.inj eu).symm.trans ho)
  · have z := E.sl i r h
    cases r with
    | un => exact True.intro
    | dat d => exact let ⟨v, e, q⟩ := z; ⟨v, e, Dp.up S1.st.b q⟩
    | raw d => exact z
    | fct F => exact let ⟨v, e, q⟩ := z; ⟨v, e, F.mono S1.st.b q⟩
    | bor ds => exact absurd h (E.nob i ds)
    | own ds =>
      obtain ⟨v, e, p, vs, ev, h0, hB, hH, hd⟩ := z
      subst ev
      exact ⟨_, e, p, vs, rfl, h0, oldB p hB (Nt.lst hH), ownH i p _ vs h rfl e hH, DpAll.up S1.st.b hd⟩
  · refine nt _ _ _ _ S1.st.b (fun a o fa e => S1.st.k a o e fun z => ?_) E.res.2.1
    rcases hM a _ z with ⟨⟨ps, e'⟩, _⟩ | ⟨h, _⟩
    · obtain ⟨u, eu, nu⟩ := (E.sep a (.inr fa)).2.1
      rw [e] at eu
      exact nu ps ((Option.some.inj eu).symm.trans e')
    · exact E.res.2.2 a h fa
  · rcases (S1.sep x h1).2.2 with z | z
    · exact E.res.2.2 x z h2
    · exact z (E.sep x (.inr h2)).2.1
  · rcases h with h | h
    · refine ⟨(S1.sep a h).1, (S1.sep a h).2.1, ?_⟩
      rcases (S1.sep a h).2.2 with z | z
      · exact (E.sep a (.inl z)).2.2
      · exact .inr (E.live z)
    · have q := E.sep a (.inr h)
      exact ⟨oldB a q.1 q.2.1, S1.st.l a q.2.1, q.2.2⟩
  · rcases z with z | z
    · rcases (S1.sep p z).2.2 with y | y
      · exact (own i p q h1 h2 h3).1 y
      · exact (E.fresh y).2 i q h1 h2 h3
    · exact (own i p q h1 h2 h3).2 z
/-- a call, of whatever effect -/
def ICallT {α : Type} (S : Spec α) (A : Act) (ρ : List Sl) (J : Res) (rs : List Sl) (R : Sl → Res → Prop) : Prop := ∀ (W : Wd) (σ : St) (vs : List V) (Q : VK), EnvA A J W σ ρ → Exits A → Paired (fun v r => RtA A J W σ ρ v r) vs rs → Wkj A ρ R W σ Q → (S.sp A.X.K) vs W.H Q A.E
structure ICall {α : Type} (S : Spec α) (A : Act) (ρ : List Sl) (J : Res) (rs : List Sl) (R : Sl → Res → Prop) : Prop where
  run : ICallT S A ρ J rs R
instance {α : Type} (S : Spec α) (A : Act) (ρ : List Sl) (J : Res) (rs : List Sl) (R : Sl → Res → Prop) : CoeFun (ICall S A ρ J rs R) (fun _ => ICallT S A ρ J rs R) := ⟨ICall.run⟩
section
variable {A : Act} {ρ : List Sl} {J : Res} {R : Sl → Res → Prop} {e o : Expr} {es : List Expr} {pos p apos : Pos} {α : Type} {S : Spec α} {rs : List Sl}
theorem icall_pure (h : PCall S A J rs fun r => R r J) : ICall S A ρ J rs R := .mk fun W σ vs Q E X o k => pcall h E X o (k.pure E)
theorem paired_conv {J' : Res} {W : Wd} {σ : St} (c : Cv J J') : ∀ {rs : List Sl} {vs : List V}, Paired (fun v r => RtA A J W σ ρ v r) vs rs → Paired (fun v r => RtA A J' W σ ρ v r) vs rs
  | _, _, .nil => .nil
  | _, _, .cons a b => .cons (a.conv c) (paired_conv c b)
theorem icall_conv {J' : Res} (c : Cv J J') (h : ICall S A ρ J' rs R) : ICall S A ρ J rs R := .mk fun W σ vs Q E X o k => h W σ vs Q (E.conv c) X (paired_conv c o) k
theorem icall (a : α) (F : Res) (e : rs = S.args a) (st : (S.args a).all isStb = true) (pre : S.pre a) (c : Cv J ((S.J a).star F)) (nt : F.Fr)
    (hM : ∀ z o, S.M a z o → ((∃ ps, o = .tbl ps) ∧ A.M.m z o) ∨ ((S.J a).fp z ∧ (A.M.z z → A.M.m z o))) (hr : ∀ r J', S.rt a r J' → isStb r = true ∧ R r (J'.star F)) (he : ∀ e J', S.ex a e J' → A.px e (J'.star F)) : ICall S A ρ J rs R := .mk fun W σ vs Q E X o k => by
  subst e
  have E1 := E.conv c
  refine ⟨a, W.B, E.ok, E.st.t E.nt, stb_pair st o, pre, E1.res.1, fun z hz => ⟨(E1.sep z (.inl hz)).1, (E1.sep z (.inl hz)).2.1⟩, fun r J' W' v h1 S1 o1 => ?_, fun e J' W' v dd h1 S1 h2 hb h3 => ?_⟩
  · have E2 := E1.call nt hM S1
    have hs := hr r J' h1
    refine k r _ v W' hs.2 S1.st.b E2 (RtOk.of (VOk.stb o1 hs.1) ?_)
    cases r <;> first | rfl | exact absurd hs.1 Bool.false_ne_true
  · exact X e _ v dd W' (he e J' h1) (E1.call nt hM S1).sat h2 hb h3
theorem Env.callT {K : PySem.W.Frag} {M : Md} {W0 W W' : Wd} {σ : St} {ρ : List Sl} {Jc F J' : Res} {mc : Addr → HO → Prop} (E : Env K M (Jc.star F) W0 W σ ρ) (nt : F.FrT)
    (hM : ∀ z o, mc z o → Jc.fp z ∧ (M.z z → M.m z o)) (S1 : Sat K ⟨mc, Jc.fp⟩ W J' W') : Env K M (J'.star F) W0 W' σ ρ := by
  have cv0 : Cv (Jc.star F) (Jc.star F.top) := ⟨fun B H h => ⟨h.1, True.intro, h.2.2⟩, fun z h => h⟩
  have E0 : Env K M (Jc.star F.top) W0 W σ ρ := E.conv cv0
  have E1 := E0.call (F := F.top) (fun _ _ _ _ _ _ _ => True.intro) (fun z o q => .inr (hM z o q)) S1
  refine ⟨E1.ok, E1.st, E1.len, E1.sl, E1.ds, ⟨E1.res.1, nt _ _ _ _ S1.st.b (fun a o fa e => S1.st.k a o e fun z => E.res.2.2 a (hM a o z).1 fa) (fun T t p hp => ?_) E.res.2.1, E1.res.2.2⟩, E1.sep, E1.nof, E1.nob, E1.nt⟩
  obtain ⟨ps, h1, h2, h3⟩ := t p hp
  refine ⟨ps, S1.st.k _ _ h1 fun z => ?_, h2, fun pos cv hc => ?_⟩
  · obtain ⟨u, eu, nu⟩ := (E.sep p.1 (.inl (hM _ _ z).1)).2.1
    rw [h1] at eu
    exact nu ps (Option.some.inj eu).symm
  · obtain ⟨c, e1, e2⟩ := h3 pos cv hc
    exact ⟨c, e1, S1.st.c _ _ e2⟩
theorem icallT (a : α) (F : Res) (e : rs = S.args a) (st : (S.args a).all isStb = true) (pre : S.pre a) (c : Cv J ((S.J a).star F)) (nt : F.FrT)
    (hM : ∀ z o, S.M a z o → (S.J a).fp z ∧ (A.M.z z → A.M.m z o)) (hr : ∀ r J', S.rt a r J' → isStb r = true ∧ R r (J'.star F)) (he : ∀ e J', S.ex a e J' → A.px e (J'.star F)) : ICall S A ρ J rs R := .mk fun W σ vs Q E X o k => by
  subst e
  have E1 := E.conv c
  refine ⟨a, W.B, E.ok, E.st.t E.nt, stb_pair st o, pre, E1.res.1, fun z hz => ⟨(E1.sep z (.inl hz)).1, (E1.sep z (.inl hz)).2.1⟩, fun r J' W' v h1 S1 o1 => ?_, fun e J' W' v dd h1 S1 h2 hb h3 => ?_⟩
  · have E2 := E1.callT nt hM S1
    have hs := hr r J' h1
    refine k r _ v W' hs.2 S1.st.b E2 (RtOk.of (VOk.stb o1 hs.1) ?_)
    cases r <;> first | rfl | exact absurd hs.1 Bool.false_ne_true
  · exact X e _ v dd W' (he e J' h1) (E1.callT nt hM S1).sat h2 hb h3
/-- the resource in another form, behind an expression -/
theorem wj_out (h : Wj A e ρ J fun r J' => ∃ J2, Cv J' J2 ∧ R r J2) : Wj A e ρ J R := .mk fun W σ Q E X k => h W σ Q E X fun r J' v W1 hr s1 E1 o1 => by
  obtain ⟨J2, c, hr⟩ := hr
  exact k r J2 v W1 hr s1 (E1.conv c) (o1.conv c)
theorem wj_call {k j : Nat} {x : Str} (c : Cal A.X.prog A.X.w A.X.K A.X.mg A.X.base k x (S.sp A.X.K)) (hr : Room j A.X.A) (hk : k ≤ j) (tk : Takes A.X fun cls d _ H => A.E cls d H) (h : Waj A (e :: es) ρ J fun rs J' => ICall S A ρ J' rs R) (hg : Gl A.X x := by rfl) (hdb : (x == ("__debug__" : Str)) = false := by decide)
    (he : starEach (e :: es) A.X.env = (false, eval e A.X.env) :: starEach es A.X.env := by rfl) (hpl : (backTo pos (starEach es A.X.env)).any (·.1) = false := by rfl) : Wj A (.Call (.Name x p) (e :: es) [] pos) ρ J R := .mk fun W σ Q E X kk => by
  obtain ⟨f, fd, ps, F, hm, hkp, hb⟩ := c.ex
  refine e_at (pe_call (E := A.E) F (hr.mono hk) hg hm hkp hb .nil (fun pins σ H s e s' I c => passes_call tk (fun _ _ _ _ z => z) pins σ H s e s' I c) pa_sem hdb he hpl) ?_
  show tA A.X (e :: es) σ W.H fun vs H1 => (S.sp A.X.K) (vs ++ []) H1 Q A.E
  refine h W σ _ E X fun rs J1 vs W1 h1 s1 E1 o1 => ?_
  rw [List.append_nil]
  exact (show ICall S A ρ J1 rs R from h1) W1 σ vs Q E1 X o1 (kk.from s1)
/-- what stands ahead of a method -/
def Rcv (A : Act) (ρ : List Sl) (J : Res) (r : Sl) (C : Addr) (m : Str) : Prop := ∀ (W : Wd) (σ : St) (v : V), EnvA A J W σ ρ → RtA A J W σ ρ v r → ∃ a dx fs, v = .ref a ∧ W.H a = some (.ins C dx fs) ∧ fs.lookup m = none
theorem rcv_J {a C : Addr} {rs : List (Str × Sl)} {m : Str} (c : ∀ B H, J.P B H → (Res.ins A.X.K a C rs).P B H) (hm : rs.lookup m = none) : Rcv A ρ J (.raw (.ref a)) C m := fun W σ v E o => by
  obtain ⟨dx, vs, e, f⟩ := c _ _ E.res
  exact ⟨a, dx, vs, o.1, e, f.non hm⟩
theorem rcv_F {C : Addr} {rs : List (Str × Sl)} {m : Str} (hm : rs.lookup m = none) : Rcv A ρ J (.fct (insF C rs)) C m := fun W σ v E o => by
  obtain ⟨a, dx, vs, e1, e2, f⟩ := o.1
  exact ⟨a, dx, vs, e1, E.ok _ _ e2, f.non hm⟩
theorem wj_meth {k j : Nat} {C : Addr} {m : Str} {pl : Sem Bool} (c : Met A.X.prog A.X.w A.X.K A.X.mg A.X.base k C m (S.sp A.X.K)) (hr : Room j A.X.A) (hk : k ≤ j) (tk : Takes A.X fun cls d _ H => A.E cls d H)
    (h : We A o ρ J fun r0 => Rcv A ρ J r0 C m ∧ Wa A (e :: es) ρ J fun rs => ICall S A ρ J (r0 :: rs) R)
    (he : starEach (e :: es) A.X.env = (false, eval e A.X.env) :: starEach es A.X.env := by rfl) (hpl : (backTo pos (starEach es A.X.env)).any (·.1) = false := by rfl)
    (ht : eval (.Call (.Attribute o m apos) (e :: es) [] pos) A.X.env = (do
      let ov ← eval o A.X.env
      standAt apos.atName
      let (f, first) ← holding [ov] (getMethod ov m pl)
      callWith pos f first (backTo pos (starEach (e :: es) A.X.env)) (backToKw pos (keywordEach [] A.X.env))) := by rfl) : Wj A (.Call (.Attribute o m apos) (e :: es) [] pos) ρ J R := .mk fun W σ Q E X kk => by
  obtain ⟨f, fd, ps, F, hC, hM, hb⟩ := c.ex
  refine e_at (pe_meth (E := A.E) pe_sem hC hM F (hr.mono hk) hb .nil (fun pins σ H s e s' I c => passes_call tk (fun _ _ _ _ z => z) pins σ H s e s' I c) pa_sem he hpl ht) ?_
  show tE A.X o σ W.H fun x H1 => ∃ a dx fs, x = .ref a ∧ H1 a = some (.ins C dx fs) ∧ fs.lookup m = none ∧ tA A.X (e :: es) σ H1 fun vs H2 => (S.sp A.X.K) (x :: (vs ++ [])) H2 Q A.E
  refine h W σ _ E X fun r0 v0 W1 h1 s1 o1 => ?_
  obtain ⟨a, dx, fs, e1, e2, e3⟩ := h1.1 W1 σ v0 (E.up s1) o1
  refine ⟨a, dx, fs, e1, e2, e3, ?_⟩
  refine h1.2 W1 σ _ (E.up s1) X fun rs vs W2 h2 s2 o2 => ?_
  rw [List.append_nil]
  exact (show ICall S A ρ J (r0 :: rs) R from h2) W2 σ (v0 :: vs) Q ((E.up s1).up s2) X (.cons (o1.up s2) o2) (kk.from (s1.trans s2).b)
theorem wj_meth0 {k j : Nat} {C : Addr} {m : Str} {pl : Sem Bool} (c : Met A.X.prog A.X.w A.X.K A.X.mg A.X.base k C m (S.sp A.X.K)) (hr : Room j A.X.A) (hk : k ≤ j) (tk : Takes A.X fun cls d _ H => A.E cls d H)
    (h : We A o ρ J fun r0 => Rcv A ρ J r0 C m ∧ ICall S A ρ J [r0] R)
    (ht : eval (.Call (.Attribute o m apos) [] [] pos) A.X.env = (do
      let ov ← eval o A.X.env
      standAt apos.atName
      let (f, first) ← holding [ov] (getMethod ov m pl)
      callWith pos f first (backTo pos (starEach [] A.X.env)) (backToKw pos (keywordEach [] A.X.env))) := by rfl) : Wj A (.Call (.Attribute o m apos) [] [] pos) ρ J R := .mk fun W σ Q E X kk => by
  obtain ⟨f, fd, ps, F, hC, hM, hb⟩ := c.ex
  refine e_at (pe_meth0 (E := A.E) pe_sem hC hM F (hr.mono hk) hb .nil (fun pins σ H s e s' I c => passes_call tk (fun _ _ _ _ z => z) pins σ H s e s' I c) ht) ?_
  show tE A.X o σ W.H fun x H1 => ∃ a dx fs, x = .ref a ∧ H1 a = some (.ins C dx fs) ∧ fs.lookup m = none ∧ (S.sp A.X.K) (x :: ([] ++ [])) H1 Q A.E
  refine h W σ _ E X fun r0 v0 W1 h1 s1 o1 => ?_
  obtain ⟨a, dx, fs, e1, e2, e3⟩ := h1.1 W1 σ v0 (E.up s1) o1
  refine ⟨a, dx, fs, e1, e2, e3, ?_⟩
  exact (show ICall S A ρ J [r0] R from h1.2) W1 σ [v0] Q (E.up s1) X (.cons o1 .nil) (kk.from s1.b)
/-! the same, of no effect -/
theorem we_meth {R : Sl → Prop} {k j : Nat} {C : Addr} {m : Str} {pl : Sem Bool} (c : Met A.X.prog A.X.w A.X.K A.X.mg A.X.base k C m (S.sp A.X.K)) (hr : Room j A.X.A) (hk : k ≤ j) (tk : Takes A.X fun cls d _ H => A.E cls d H)
    (h : We A o ρ J fun r0 => Rcv A ρ J r0 C m ∧ Wa A (e :: es) ρ J fun rs => PCall S A J (r0 :: rs) R)
    (he : starEach (e :: es) A.X.env = (false, eval e A.X.env) :: starEach es A.X.env := by rfl) (hpl : (backTo pos (starEach es A.X.env)).any (·.1) = false := by rfl)
    (ht : eval (.Call (.Attribute o m apos) (e :: es) [] pos) A.X.env = (do
      let ov ← eval o A.X.env
      standAt apos.atName
      let (f, first) ← holding [ov] (getMethod ov m pl)
      callWith pos f first (backTo pos (starEach (e :: es) A.X.env)) (backToKw pos (keywordEach [] A.X.env))) := by rfl) : We A (.Call (.Attribute o m apos) (e :: es) [] pos) ρ J R := .mk fun W σ Q E X kk => by
  obtain ⟨f, fd, ps, F, hC, hM, hb⟩ := c.ex
  refine e_at (pe_meth (E := A.E) pe_sem hC hM F (hr.mono hk) hb .nil (fun pins σ H s e s' I c => passes_call tk (fun _ _ _ _ z => z) pins σ H s e s' I c) pa_sem he hpl ht) ?_
  show tE A.X o σ W.H fun x H1 => ∃ a dx fs, x = .ref a ∧ H1 a = some (.ins C dx fs) ∧ fs.lookup m = none ∧ tA A.X (e :: es) σ H1 fun vs H2 => (S.sp A.X.K) (x :: (vs ++ [])) H2 Q A.E
  refine h W σ _ E X fun r0 v0 W1 h1 s1 o1 => ?_
  obtain ⟨a, dx, fs, e1, e2, e3⟩ := h1.1 W1 σ v0 (E.up s1) o1
  refine ⟨a, dx, fs, e1, e2, e3, ?_⟩
  refine h1.2 W1 σ _ (E.up s1) X fun rs vs W2 h2 s2 o2 => ?_
  rw [List.append_nil]
  exact pcall h2 ((E.up s1).up s2) X (.cons (o1.up s2) o2) (kk.from (s1.trans s2))
theorem we_meth0 {R : Sl → Prop} {k j : Nat} {C : Addr} {m : Str} {pl : Sem Bool} (c : Met A.X.prog A.X.w A.X.K A.X.mg A.X.base k C m (S.sp A.X.K)) (hr : Room j A.X.A) (hk : k ≤ j) (tk : Takes A.X fun cls d _ H => A.E cls d H)
    (h : We A o ρ J fun r0 => Rcv A ρ J r0 C m ∧ PCall S A J [r0] R)
    (ht : eval (.Call (.Attribute o m apos) [] [] pos) A.X.env = (do
      let ov ← eval o A.X.env
      standAt apos.atName
      let (f, first) ← holding [ov] (getMethod ov m pl)
      callWith pos f first (backTo pos (starEach [] A.X.env)) (backToKw pos (keywordEach [] A.X.env))) := by rfl) : We A (.Call (.Attribute o m apos) [] [] pos) ρ J R := .mk fun W σ Q E X kk => by
  obtain ⟨f, fd, ps, F, hC, hM, hb⟩ := c.ex
  refine e_at (pe_meth0 (E := A.E) pe_sem hC hM F (hr.mono hk) hb .nil (fun pins σ H s e s' I c => passes_call tk (fun _ _ _ _ z => z) pins σ H s e s' I c) ht) ?_
  show tE A.X o σ W.H fun x H1 => ∃ a dx fs, x = .ref a ∧ H1 a = some (.ins C dx fs) ∧ fs.lookup m = none ∧ (S.sp A.X.K) (x :: ([] ++ [])) H1 Q A.E
  refine h W σ _ E X fun r0 v0 W1 h1 s1 o1 => ?_
  obtain ⟨a, dx, fs, e1, e2, e3⟩ := h1.1 W1 σ v0 (E.up s1) o1
  exact ⟨a, dx, fs, e1, e2, e3, pcall h1.2 (E.up s1) X (.cons o1 .nil) (kk.from s1)⟩
/-- a property that raises nothing -/
structure Prp (P : Program) (w : World) (K : PySem.W.Frag) (mg : Str → Option Value) (base : Heap) (k : Nat) (C : Addr) (f : Str) (sp : Sp) : Prop where
  ex : ∃ (p g : Addr) (fd : FuncData) (ps : List Str), FnOk P w K mg base (L2.CX P w) k g fd ps sp ∧ Cls K C ∧ PropOf K C f p g ∧ Binds K fd ps []
theorem we_prop {R : Sl → Prop} {k j : Nat} {C : Addr} {f : Str} (c : Prp A.X.prog A.X.w A.X.K A.X.mg A.X.base k C f (S.sp A.X.K)) (hr : Room j A.X.A) (hk : k + 1 ≤ j) (hne : ∀ a e J', ¬ S.ex a e J')
    (h : We A o ρ J fun r0 => (∃ m, Rcv A ρ J r0 C m) ∧ PCall S A J [r0] R) (hab : attributeBase o f A.X.env (eval o A.X.env) = eval o A.X.env := by rfl) : We A (.Attribute o f pos) ρ J R := .mk fun W σ Q E X kk => by
  obtain ⟨p, g, fd, ps, F, hC, hP, hb⟩ := c.ex
  refine e_at (pe_prop (E := fun _ _ _ => False) pe_sem hC hP F (hr.mono hk) hb .nil (fun pins σ H s e s' I c => ?_) hab) ?_
  · obtain ⟨z⟩ := c <;> simp_all
  show tE A.X o σ W.H fun x H1 => ∃ a dx fs, x = .ref a ∧ H1 a = some (.ins C dx fs) ∧ (S.sp A.X.K) (.ref a :: []) H1 Q (fun _ _ _ => False)
  refine h W σ _ E X fun r0 v0 W1 h1 s1 o1 => ?_
  obtain ⟨⟨m, hm⟩, hp⟩ := h1
  obtain ⟨a, dx, fs, e1, e2, e3⟩ := hm W1 σ v0 (E.up s1) o1
  refine ⟨a, dx, fs, e1, e2, ?_⟩
  subst e1
  obtain ⟨x, B, ok, nt, o2, hpre, hJ, hfp, hr, he⟩ := pcall hp (E.up s1) X (.cons o1 .nil) (kk.from s1)
  exact ⟨x, B, ok, nt, o2, hpre, hJ, hfp, hr, fun e J' W' v dd z => (hne _ _ _ z).elim⟩
end
end DL

namespace DL
open PySem PySem.Spec PyProof.Rows L2
/-! ### attributes -/
section
variable {A : Act} {ρ : List Sl} {J F : Res} {R : Sl → Prop} {o e : Expr} {es : List Expr} {pos pos' p apos cpos : Pos} {nx bk ct : List Sl → Res → Prop} {rt : Sl → Res → Prop} {f : Str} {C a : Addr} {fs : List (Str × Sl)}
theorem fok_rt {W : Wd} {σ : St} {v : V} {r : Sl} (h : FOk A.X.K W.B v r) : RtA A J W σ ρ v r := by
  cases r with
  | dat d => exact RtOk.of h
  | raw u => exact RtOk.of h
  | fct F => exact RtOk.of h
  | _ => exact h.elim
/-- e.f of an object that may change -/
theorem we_fld (c : Cls A.X.K C) (n : NoAttr A.X.K C f) (h : We A o ρ J fun r0 => ∃ a fs r, r0 = .raw (.ref a) ∧ (∀ B H, J.P B H → (Res.ins A.X.K a C fs).P B H) ∧ fs.lookup f = some r ∧ R r) (hb : attributeBase o f A.X.env (eval o A.X.env) = eval o A.X.env := by rfl) : We A (.Attribute o f pos) ρ J R := .mk fun W σ Q E X k => by
  refine e_at (pe_fld pe_sem hb) ?_
  show tE A.X o σ W.H fun x H1 => ∃ a C dx fs v, x = .ref a ∧ H1 a = some (.ins C dx fs) ∧ Cls A.X.K C ∧ NoAttr A.X.K C f ∧ fs.lookup f = some v ∧ Q v H1
  refine h W σ _ E X fun r0 v W1 h1 s1 o1 => ?_
  obtain ⟨a, fs, rf, rfl, hJ, hl, hr⟩ := h1
  have E1 := E.up s1
  obtain ⟨dx, vs, e, q⟩ := hJ _ _ E1.res
  obtain ⟨u, hu, ou⟩ := q.get hl
  exact ⟨a, C, dx, vs, u, o1.1, e, c, n, hu, (k.from s1).now E1 hr (fok_rt ou)⟩
/-- e.f of an object that lasts -/
theorem we_fldF (c : Cls A.X.K C) (n : NoAttr A.X.K C f) (h : We A o ρ J fun r0 => ∃ fs r, r0 = .fct (insF C fs) ∧ fs.lookup f = some r ∧ R r) (hb : attributeBase o f A.X.env (eval o A.X.env) = eval o A.X.env := by rfl) : We A (.Attribute o f pos) ρ J R := .mk fun W σ Q E X k => by
  refine e_at (pe_fld pe_sem hb) ?_
  show tE A.X o σ W.H fun x H1 => ∃ a C dx fs v, x = .ref a ∧ H1 a = some (.ins C dx fs) ∧ Cls A.X.K C ∧ NoAttr A.X.K C f ∧ fs.lookup f = some v ∧ Q v H1
  refine h W σ _ E X fun r0 v W1 h1 s1 o1 => ?_
  obtain ⟨fs, rf, rfl, hl, hr⟩ := h1
  have E1 := E.up s1
  obtain ⟨a, dx, vs, e0, e, q⟩ := o1.1
  obtain ⟨u, hu, ou⟩ := q.get hl
  exact ⟨a, C, dx, vs, u, e0, s1.h _ _ e, c, n, hu, (k.from s1).now E1 hr (fok_rt ou)⟩
theorem code_upI {H : Hp} {p a C C' dx dx' : Addr} {q : Str} {vs us : List (Str × V)} (hH : H p = some (.ins C dx vs)) (e : H a = some (LamX.CodeO a q)) : upd H p (.ins C' dx' us) a = some (LamX.CodeO a q) := by
  have ne : a ≠ p := fun z => by
    rw [z, hH] at e
    have e := Option.some.inj e
    unfold LamX.CodeO at e
    cases e
  rw [upd_ne ne]; exact e
/-- an object of the resource is written -/
theorem Env.put {K : PySem.W.Frag} {M : Md} {W0 W : Wd} {σ : St} {J1 J2 : Res} {p : Addr} {o o' : HO} (E : Env K M (J1.star F) W0 W σ ρ) (h1 : J1.fp p) (ho : W.H p = some o) (nl : ∀ ps, o ≠ .tbl ps) (hc : ∀ q, o ≠ LamX.CodeO p q) (hM : M.z p → M.m p o ∨ ¬ Nt W0.H p) (no' : ∀ ps, o' ≠ .tbl ps)
    (h2 : ∀ a, J2.fp a → J1.fp a) (hP : J1.P W.B W.H → J2.P W.B (upd W.H p o')) : Env K M (J2.star F) W0 ⟨W.B, upd W.H p o'⟩ σ ρ := by
  have s := E.sep p (.inl h1)
  have nB : ∀ a u, W.B a = some u → a ≠ p := fun a u e z => by rw [z, s.1] at e; cases e
  have cu : ∀ a q, W.H a = some (LamX.CodeO a q) → upd W.H p o' a = some (LamX.CodeO a q) := fun a q e => by
    have ne : a ≠ p := fun z => by
      subst z
      rw [ho] at e
      exact hc q (Option.some.inj e)
    rw [upd_ne ne]; exact e
  have lv : ∀ a, Nt W.H a → Nt (upd W.H p o') a := fun a e => Nt.upd no' e
  refine ⟨fun a u e => ?_, ⟨E.st.b, fun a u e => ?_, fun a u e m => ?_, E.st.n, fun a e => lv a (E.st.l a e), fun a q e => cu a q (E.st.c a q e), E.st.t⟩, E.len, fun i r h => ?_, E.ds, ⟨hP E.res.1, ?_, fun x a b => E.res.2.2 x (h2 x a) b⟩, fun a h => ?_, fun i q r a b c z => E.nof i q r a b c (z.elim (fun y => .inl (h2 _ y)) .inr), E.nob, E.nt⟩
  · show upd _ _ _ _ = _
    rw [upd_ne (nB a u e)]; exact E.ok a u e
  · show upd _ _ _ _ = _
    rw [upd_ne (nB a u e)]; exact E.ok a u e
  · show upd _ _ _ _ = _
    have ne : a ≠ p := fun z => by
      subst z
      have e2 := E.st.k a u e m
      rw [ho] at e2
      have e3 := Option.some.inj e2
      subst e3
      rcases s.2.2 with y | y
      · rcases hM y with y | y
        · exact m y
        · exact y ⟨_, e, nl⟩
      · exact y ⟨_, e, nl⟩
    rw [upd_ne ne]; exact E.st.k a u e m
  · have z := E.sl i r h
    cases r with
    | own ds =>
      obtain ⟨v, e, q, vs, ev, h0, hB, hH, hd⟩ := z
      subst ev
      refine ⟨_, e, q, vs, rfl, h0, hB, ?_, hd⟩
      show upd _ _ _ _ = _
      have ne : q ≠ p := fun y => E.nof i q _ h rfl e (.inl (by rw [y]; exact h1))
      rw [upd_ne ne]; exact hH
    | bor ds => exact absurd h (E.nob i ds)
    | _ => exact z
  · refine F.mono _ _ _ _ (Same.refl _) (fun a u fa e => ?_) cu (fun T t => tabs_upd ho nl (fun q z => hc q z) t) E.res.2.1
    show upd _ _ _ _ = _
    rw [upd_ne (fun z => E.res.2.2 p h1 (by rw [← z]; exact fa))]; exact e
  · have q := E.sep a (h.elim (fun y => .inl (h2 _ y)) .inr)
    exact ⟨q.1, lv a q.2.1, q.2.2⟩
theorem rt_fok {W : Wd} {σ : St} {v : V} {r : Sl} (h : RtA A J W σ ρ v r) (hs : isStb r = true) (hu : r ≠ .un) : FOk A.X.K W.B v r := by
  cases r with
  | un => exact absurd rfl hu
  | own ds => cases hs
  | bor ds => cases hs
  | _ => exact h.1
/-- a.f = e -/
theorem ws_fld (c : Cls A.X.K C) (n : NoAttr A.X.K C f) (hz : A.M.z a → ∀ o, A.M.m a o) (cv : Cv J ((Res.ins A.X.K a C fs).star F)) (hl : fs.length < 1000)
    (h : We A e ρ J fun r => isStb r = true ∧ r ≠ .un ∧ We A o ρ J fun r0 => r0 = .raw (.ref a) ∧ nx ρ ((Res.ins A.X.K a C (putS f r fs)).star F)) (hs : swapsWith e (some (.Attribute o f pos')) pos.line A.X.env = pure false := by rfl) : Ws A (.Assign [.Attribute o f pos'] e pos) ρ J nx rt bk ct := .mk fun W σ D E X k => by
  refine s_at (ps_fld pe_sem pe_sem hs) ?_
  show tE A.X e σ W.H fun y H1 => tE A.X o σ H1 fun x H2 => ∃ a C dx fs, x = .ref a ∧ H2 a = some (.ins C dx fs) ∧ Cls A.X.K C ∧ NoAttr A.X.K C f ∧ fs.length < 1000 ∧ D.nx σ (upd H2 a (.ins C dx (putF f y fs)))
  refine h W σ _ E X fun r v W1 h1 s1 o1 => ?_
  obtain ⟨st, hu, h1⟩ := h1
  refine h1 W1 σ _ (E.up s1) X fun r0 v0 W2 h2 s2 o2 => ?_
  obtain ⟨rfl, hn⟩ := h2
  have E2 := ((E.up s1).up s2).conv cv
  obtain ⟨dx, vs, e, q⟩ := E2.res.1
  have fo := rt_fok (o1.up s2) st hu
  refine ⟨a, C, dx, vs, o2.1, e, c, n, by rw [q.len]; exact hl, ?_⟩
  refine k.nx ρ _ ⟨W2.B, upd W2.H a (.ins C dx (putF f v vs))⟩ σ hn (s1.trans s2).b ?_
  exact E2.put (J2 := Res.ins A.X.K a C (putS f r fs)) rfl e (fun _ z => by cases z) (fun q z => by unfold LamX.CodeO at z; cases z) (fun z => .inl (hz z _)) (fun _ z => by cases z) (fun _ z => z) fun _ => ⟨dx, _, upd_same, q.put fo⟩
/-- a.f = e, e a list of one's own -/
theorem ws_fldO (c : Cls A.X.K C) (n : NoAttr A.X.K C f) (hz : A.M.z a → ∀ o, A.M.m a o) (cv : Cv J ((Res.ins A.X.K a C fs).star F)) (hl : fs.length < 1000)
    (h : We A e ρ J fun r => ∃ ds, r = .own ds ∧ We A o ρ J fun r0 => r0 = .raw (.ref a) ∧ ∀ q, nx ρ ((Res.ins A.X.K a C (putS f (.raw (.ref q)) fs)).star ((Res.lst A.X.K q ds).star F))) (hs : swapsWith e (some (.Attribute o f pos')) pos.line A.X.env = pure false := by rfl) : Ws A (.Assign [.Attribute o f pos'] e pos) ρ J nx rt bk ct := .mk fun W σ D E X k => by
  refine s_at (ps_fld pe_sem pe_sem hs) ?_
  show tE A.X e σ W.H fun y H1 => tE A.X o σ H1 fun x H2 => ∃ a C dx fs, x = .ref a ∧ H2 a = some (.ins C dx fs) ∧ Cls A.X.K C ∧ NoAttr A.X.K C f ∧ fs.length < 1000 ∧ D.nx σ (upd H2 a (.ins C dx (putF f y fs)))
  refine h W σ _ E X fun r v W1 h1 s1 o1 => ?_
  obtain ⟨ds, rfl, h1⟩ := h1
  refine h1 W1 σ _ (E.up s1) X fun r0 v0 W2 h2 s2 o2 => ?_
  obtain ⟨rfl, hn⟩ := h2
  have E1 := (E.up s1).up s2
  have E2 := E1.conv cv
  have o1' := (o1.up s2)
  obtain ⟨q, us, ev, h0, hB, hH, hd⟩ := o1'.1
  have nfJ := o1'.2.1 rfl q ev
  have nsl := o1'.2.2 rfl q ev
  obtain ⟨dx, vs, e, fo⟩ := E2.res.1
  have nqa : q ≠ a := fun z => by rw [z, e] at hH; cases hH
  have nF : ¬ F.fp q := fun z => nfJ (cv.f _ (.inr z))
  -- the list joins the resource
  have E3 : Env A.X.K A.M ((Res.ins A.X.K a C fs).star ((Res.lst A.X.K q ds).star F)) A.W0 W2 σ ρ := by
    refine ⟨E2.ok, E2.st, E2.len, E2.sl, E2.ds, ⟨E2.res.1, ⟨⟨us, hH, hd⟩, E2.res.2.1, fun x y z => nF (by rw [← show x = q from y]; exact z)⟩, fun x y z => ?_⟩, fun x hx => ?_, fun i p r a1 b1 c1 z => ?_, E2.nob, E2.nt⟩
    · rcases z with z | z
      · exact nqa ((show x = q from z).symm.trans y)
      · exact E2.res.2.2 x y z
    · rcases hx with hx | hx | hx
      · exact E2.sep x (.inl hx)
      · have hx : x = q := hx
        subst hx
        exact ⟨hB, Nt.lst hH, .inr h0⟩
      · exact E2.sep x (.inr hx)
    · rcases z with z | z | z
      · exact E2.nof i p r a1 b1 c1 (.inl z)
      · have z : p = q := z
        subst z
        exact nsl i r a1 b1 c1
      · exact E2.nof i p r a1 b1 c1 (.inr z)
  refine ⟨a, C, dx, vs, o2.1, e, c, n, by rw [fo.len]; exact hl, ?_⟩
  refine k.nx ρ _ ⟨W2.B, upd W2.H a (.ins C dx (putF f v vs))⟩ σ (hn q) (s1.trans s2).b ?_
  exact E3.put (J2 := Res.ins A.X.K a C (putS f (.raw (.ref q)) fs)) rfl e (fun _ z => by cases z) (fun q z => by unfold LamX.CodeO at z; cases z) (fun z => .inl (hz z _)) (fun _ z => by cases z) (fun _ z => z) fun _ => ⟨dx, _, upd_same, fo.put (show FOk A.X.K W2.B v (.raw (.ref q)) from ev)⟩
/-- o.append(e), o a list of the resource -/
theorem ws_appendJ {q : Addr} {ds : List PyData} (hz : A.M.z q → ∀ o, A.M.m q o) (cv : Cv J ((Res.lst A.X.K q ds).star F)) (h : We A o ρ J fun r0 => r0 = .raw (.ref q) ∧ We A e ρ J fun r => ∃ d, r = .dat d ∧ ds.length < 1000000 ∧ nx ρ ((Res.lst A.X.K q (ds ++ [d])).star F))
    (hs : swapsWith (.Call (.Attribute o "append" apos) [e] [] cpos) none pos.line A.X.env = pure false := by rfl) (hst : starEach [e] A.X.env = (false, eval e A.X.env) :: starEach [] A.X.env := by rfl)
    (hpe : ∀ (to : TE) (t : TA), PE A.X o to → PA A.X [e] t → PE A.X (.Call (.Attribute o "append" apos) [e] [] cpos) (tBM A.X.K "list" (rAppend) to t) := by exact fun to t ho ha => pe_bm PySem.F.plainAttrs_list PySem.F.slot_list_append PySem.F.type_list_append mt_append ho ha) :
    Ws A (.Expr (.Call (.Attribute o "append" apos) [e] [] cpos) pos) ρ J nx rt bk ct := .mk fun W σ D E X k => by
  refine s_at (ps_expr (hpe _ _ pe_sem (pa_cons pe_sem pa_nil hst)) hs) ?_
  show tE A.X o σ W.H fun x H1 => tyV A.X.K "list" x H1 ∧ tE A.X e σ H1 fun y H2 => rAppend x [y] H2 fun _ H1 => D.nx σ H1
  refine h W σ _ E X fun r0 v0 W1 h1 s1 o1 => ?_
  obtain ⟨rfl, h1⟩ := h1
  have E1 := E.up s1
  obtain ⟨vs1, e1, _⟩ := (cv.p _ _ E1.res).1
  have ev : v0 = .ref q := o1.1
  subst ev
  refine ⟨.inl ⟨rfl, _, SqL.of e1⟩, ?_⟩
  refine h1 W1 σ _ E1 X fun r v W2 h2 s2 o2 => ?_
  obtain ⟨d, rfl, hl, hn⟩ := h2
  have E2 := (E1.up s2).conv cv
  obtain ⟨vs, e2, hd⟩ := E2.res.1
  refine ⟨q, vs, v, rfl, rfl, e2, by rw [DpAll.len hd]; exact Nat.lt_of_lt_of_le hl (by decide), ?_⟩
  refine k.nx ρ _ ⟨W2.B, upd W2.H q (.lst (vs ++ [v]))⟩ σ hn (s1.trans s2).b ?_
  exact E2.put (J2 := Res.lst A.X.K q (ds ++ [d])) rfl e2 (fun _ z => by cases z) (fun q z => code_ne z.symm) (fun z => .inl (hz z _)) (fun _ z => by cases z) (fun _ z => z) fun _ => ⟨_, upd_same, DpAll.app hd (.cons o2.1 .nil)⟩
theorem DpAll.dropLast {K : PySem.W.Frag} {H : Hp} : ∀ {vs : List V} {ds : List PyData}, DpAll K H vs ds → DpAll K H vs.dropLast ds.dropLast
  | [], [], .nil => .nil
  | [_], [_], .cons _ .nil => .nil
  | _ :: _ :: _, _ :: _ :: _, .cons h (.cons h2 t) => .cons h (DpAll.dropLast (.cons h2 t))
/-- o.pop(), o a list of the resource -/
theorem wj_popJ {R : Sl → Res → Prop} {q : Addr} {ds : List PyData} {d : PyData} (hz : A.M.z q → ∀ o, A.M.m q o) (cv : Cv J ((Res.lst A.X.K q ds).star F)) (hd : ds[ds.length - 1]? = some d) (h : We A o ρ J fun r0 => r0 = .raw (.ref q) ∧ R (.dat d) ((Res.lst A.X.K q ds.dropLast).star F))
    (hbase : attributeBase o "pop" A.X.env (eval o A.X.env) = eval o A.X.env := by rfl) (hline : (apos.endLine == cpos.line) = true := by rfl) : Wj A (.Call (.Attribute o "pop" apos) [] [] cpos) ρ J R := .mk fun W σ Q E X k => by
  refine e_at (pe_bm0 PySem.F.plainAttrs_list PySem.F.slot_list_pop PySem.F.type_list_pop mt_pop pe_sem hbase hline) ?_
  show tE A.X o σ W.H fun x H1 => tyV A.X.K "list" x H1 ∧ rPop x [] H1 Q
  refine h W σ _ E X fun r0 v0 W1 h1 s1 o1 => ?_
  obtain ⟨rfl, h1⟩ := h1
  have E1 := (E.up s1).conv cv
  obtain ⟨vs1, e1, hv⟩ := E1.res.1
  have ev : v0 = .ref q := o1.1
  subst ev
  obtain ⟨y, hy, hyd⟩ := DpAll.at hv hd
  refine ⟨.inl ⟨rfl, _, SqL.of e1⟩, q, vs1, y, rfl, rfl, e1, by rw [DpAll.len hv]; exact hy, ?_⟩
  refine k _ _ y ⟨W1.B, upd W1.H q (.lst vs1.dropLast)⟩ h1 s1.b ?_ (RtA.dat hyd)
  exact E1.put (J2 := Res.lst A.X.K q ds.dropLast) rfl e1 (fun _ z => by cases z) (fun q z => code_ne z.symm) (fun z => .inl (hz z _)) (fun _ z => by cases z) (fun _ z => z) fun _ => ⟨_, upd_same, DpAll.dropLast hv⟩
end
/-! ### making objects -/
section
variable {A : Act} {ρ : List Sl} {J : Res} {R : Sl → Prop} {e : Expr} {es : List Expr} {pos p : Pos} {C : Addr} {α : Type} {S : Spec α} {x : Str} {rs : List Sl}
/-- what the making asks: the init's promise at each place -/
def MCall (S : Spec α) (A : Act) (C : Addr) (rs : List Sl) (R : Addr → Res → Prop) (J : Res) : Prop := ∀ a : Addr, ∃ z : α, Sl.raw (.ref a) :: rs = S.args z ∧ (S.args z).all isStb = true ∧ S.pre z ∧ S.J z = Res.ins A.X.K a C [] ∧ (∀ b o, S.M z b o → b = a) ∧
  (∀ r J', S.rt z r J' → r = .dat .none ∧ R a J') ∧ (∀ e J', S.ex z e J' → A.px e J)
theorem stp_made {W : Wd} {a dx : Addr} {o1 o2 : HO} (ok : Same W.B W.H) (h1 : W.H a = none) (h2 : W.H dx = none) (ne : dx ≠ a) (n1 : ∀ ps, o1 ≠ .tbl ps := by intro ps z; cases z) (n2 : ∀ ps, o2 ≠ .tbl ps := by intro ps z; cases z) : Stp0 W ⟨W.B, upd (upd W.H dx o1) a o2⟩ := by
  have s1 := Stp.mine (o := o1) ok h2 n1
  have h3 : upd W.H dx o1 a = none := by rw [upd_ne (Ne.symm ne)]; exact h1
  exact s1.trans (Stp.mine (W := ⟨W.B, upd W.H dx o1⟩) (o := o2) s1.h h3 n2)
theorem paired_up {W W1 : Wd} {σ : St} (s : Stp0 W W1) : ∀ {rs : List Sl} {vs : List V}, Paired (fun v r => RtA A J W σ ρ v r) vs rs → Paired (fun v r => RtA A J W1 σ ρ v r) vs rs
  | _, _, .nil => .nil
  | _, _, .cons a b => .cons (a.up s) (paired_up s b)
theorem mcall {R : Addr → Res → Prop} (h : MCall S A C rs R J) {W : Wd} {σ : St} {Q : VK} {vs : List V} (E : EnvA A J W σ ρ) (X : Exits A) (o : Paired (fun v r => RtA A J W σ ρ v r) vs rs)
    (k : ∀ (a : Addr) (J' : Res) (W1 : Wd), R a J' → ¬ Nt W.H a → W.B a = none → Stp0 W W1 → J'.P W1.B W1.H → (∀ z, J'.fp z → W1.B z = none ∧ Nt W1.H z ∧ ¬ Nt W.H z) → EnvA A J W1 σ ρ → Q (.ref a) W1.H) (a dx : Addr) (ha : W.H a = none) (hdx : W.H dx = none) (ne : dx ≠ a) :
    (S.sp A.X.K) (.ref a :: (vs ++ [])) (upd (upd W.H dx (.own a)) a (.ins C dx [])) (fun v H2 => v = .non ∧ Q (.ref a) H2) A.E := by
  obtain ⟨z, e1, hst, hpre, hJ, hM, hr, he⟩ := h a
  have s0 := stp_made (o1 := .own a) (o2 := .ins C dx []) E.ok ha hdx ne
  have E0 := E.up s0
  rw [List.append_nil]
  have op := paired_up s0 o
  have op2 : Paired (fun v r => RtA A J ⟨W.B, upd (upd W.H dx (.own a)) a (.ins C dx [])⟩ σ ρ v r) (.ref a :: vs) (Sl.raw (.ref a) :: rs) := .cons (RtOk.of rfl) op
  rw [e1] at op2
  have hB : W.B a = none := E.ok.free ha
  have key : ∀ {J' : Res} {W' : Wd}, Sat A.X.K (S.md z) ⟨W.B, upd (upd W.H dx (.own a)) a (.ins C dx [])⟩ J' W' → Stp0 W W' := fun {J' W'} S1 => by
    refine ⟨S1.st.b, S1.st.h, fun b o e _ => ?_, fun b e => ?_, fun b e => S1.st.l b (s0.l b e), fun b q e => S1.st.c b q (s0.c b q e), S1.st.t⟩
    · refine S1.st.k b o (s0.same b o e) fun z => ?_
      have := hM b o z
      rw [this, ha] at e; cases e
    · rcases S1.st.n b e with z | z
      · exact .inl z
      · exact .inr (s0.non z)
  refine ⟨z, W.B, s0.h, E.st.t E.nt, stb_pair hst op2, hpre, by rw [hJ]; exact ⟨dx, [], upd_same, .nil⟩, fun b hb => ?_, fun r J' W' v h1 S1 o1 => ?_, fun e J' W' v dd h1 S1 h2 hb h3 => ?_⟩
  · rw [hJ] at hb
    have hb : b = a := hb
    subst hb
    exact ⟨hB, _, upd_same, fun ps z => by cases z⟩
  · have hh := hr r J' h1
    obtain ⟨rfl, hR⟩ := hh
    refine ⟨dp_non o1, k a J' W' hR (Nt.not ha) hB (key S1) S1.res (fun b hb => ?_) (E.up (key S1))⟩
    have q := S1.sep b hb
    refine ⟨q.1, q.2.1, ?_⟩
    rcases q.2.2 with y | y
    · have y : (S.J z).fp b := y
      rw [hJ] at y
      rw [show b = a from y]; exact Nt.not ha
    · exact s0.non y
  · exact X e J v dd W' (he e J' h1) (E.up (key S1)).sat h2 hb h3
/-- C(..), an object that lasts -/
theorem we_makeF {k j : Nat} (c : Mak A.X.prog A.X.w A.X.K A.X.mg A.X.base k x C (S.sp A.X.K)) (hr : Room j A.X.A) (hk : k + 1 ≤ j) (tk : Takes A.X fun cls d _ H => A.E cls d H) (h : Wa A (e :: es) ρ J fun rs => MCall S A C rs (fun a J' => ∃ fs, J' = Res.ins A.X.K a C fs ∧ R (.fct (insF C fs))) J) (hg : Gl A.X x := by rfl) (hdb : (x == ("__debug__" : Str)) = false := by decide)
    (he : starEach (e :: es) A.X.env = (false, eval e A.X.env) :: starEach es A.X.env := by rfl) (hpl : (backTo pos (starEach es A.X.env)).any (·.1) = false := by rfl) : We A (.Call (.Name x p) (e :: es) [] pos) ρ J R := .mk fun W σ Q E X kk => by
  obtain ⟨f, fd, ps, F, hM, hm, hb⟩ := c.ex
  refine e_at (pe_make (E := A.E) hM F (hr.mono hk) hg hm hb .nil (fun pins σ H s e s' I c => passes_call tk (fun _ _ _ _ z => z) pins σ H s e s' I c) pa_sem hdb he hpl) ?_
  show tA A.X (e :: es) σ W.H fun vs H1 => ∀ x dx, H1 x = none → H1 dx = none → dx ≠ x → (S.sp A.X.K) (.ref x :: (vs ++ [])) (upd (upd H1 dx (.own x)) x (.ins C dx [])) (fun v H2 => v = .non ∧ Q (.ref x) H2) A.E
  refine h W σ _ E X fun rs vs W1 h1 s1 o1 a dx ha hdx ne => ?_
  refine mcall h1 (E.up s1) X o1 (fun a J' W2 hR n1 n2 s2 hP hsep E2 => ?_) a dx ha hdx ne
  obtain ⟨fs, rfl, hR⟩ := hR
  obtain ⟨dx', us, e1, fo⟩ := hP
  have nB := (hsep a rfl).1
  obtain ⟨t1, t2⟩ := frz_ok (o := .ins C dx' us) E2.ok nB e1
  refine (kk.from s1) _ (.ref a) ⟨upd W2.B a (.ins C dx' us), W2.H⟩ hR (frz_st (W0 := W1) E2.ok s2 n1 nB e1) (RtOk.of ⟨a, dx', us, rfl, upd_same, fo.up t1⟩)
/-- C(..), an object that may change -/
theorem wj_make {R : Sl → Res → Prop} {k j : Nat} (c : Mak A.X.prog A.X.w A.X.K A.X.mg A.X.base k x C (S.sp A.X.K)) (hr : Room j A.X.A) (hk : k + 1 ≤ j) (tk : Takes A.X fun cls d _ H => A.E cls d H) (h : Wa A (e :: es) ρ J fun rs => MCall S A C rs (fun a J' => R (.raw (.ref a)) (J'.star J)) J) (hg : Gl A.X x := by rfl) (hdb : (x == ("__debug__" : Str)) = false := by decide)
    (he : starEach (e :: es) A.X.env = (false, eval e A.X.env) :: starEach es A.X.env := by rfl) (hpl : (backTo pos (starEach es A.X.env)).any (·.1) = false := by rfl) : Wj A (.Call (.Name x p) (e :: es) [] pos) ρ J R := .mk fun W σ Q E X kk => by
  obtain ⟨f, fd, ps, F, hM, hm, hb⟩ := c.ex
  refine e_at (pe_make (E := A.E) hM F (hr.mono hk) hg hm hb .nil (fun pins σ H s e s' I c => passes_call tk (fun _ _ _ _ z => z) pins σ H s e s' I c) pa_sem hdb he hpl) ?_
  show tA A.X (e :: es) σ W.H fun vs H1 => ∀ x dx, H1 x = none → H1 dx = none → dx ≠ x → (S.sp A.X.K) (.ref x :: (vs ++ [])) (upd (upd H1 dx (.own x)) x (.ins C dx [])) (fun v H2 => v = .non ∧ Q (.ref x) H2) A.E
  refine h W σ _ E X fun rs vs W1 h1 s1 o1 a dx ha hdx ne => ?_
  refine mcall h1 (E.up s1) X o1 (fun a J' W2 hR n1 n2 s2 hP hsep E2 => ?_) a dx ha hdx ne
  have Ew := E.up s1
  refine kk _ _ (.ref a) W2 hR (s1.b.trans s2.b) ⟨E2.ok, E2.st, E2.len, E2.sl, E2.ds, ⟨hP, E2.res, fun y y1 y2 => (hsep y y1).2.2 (Ew.sep y y2).2.1⟩, fun y hy => ?_, fun i q r h1 h2 h3 hz => ?_, E2.nob, E2.nt⟩ (RtOk.of rfl)
  · rcases hy with hy | hy
    · have q := hsep y hy
      exact ⟨q.1, q.2.1, .inr (Ew.live q.2.2)⟩
    · exact E2.sep y hy
  · rcases hz with hz | hz
    · exact (Ew.fresh (hsep q hz).2.2).2 i r h1 h2 h3
    · exact E2.nof i q r h1 h2 h3 hz
end
end DL

namespace DL
open PySem PySem.Spec PyProof.Rows L2
/-! ### list comprehensions -/
def wipeS (ρ : List Sl) : List Nat → List Sl
  | [] => ρ
  | v :: vs => (wipeS ρ vs).set v .un
theorem at_wipe1 {σ : St} {i j : Nat} {v : V} (h : at_ (σ.set j none) i = some v) : at_ σ i = some v ∧ i ≠ j := by
  by_cases e : j = i
  · subst e
    unfold at_ at h
    by_cases hj : j < σ.length
    · rw [List.getElem?_set_self hj] at h; cases h
    · rw [List.getElem?_eq_none (by rw [List.length_set]; omega)] at h; cases h
  · rw [at_set_ne e] at h
    exact ⟨h, fun z => e z.symm⟩
theorem Env.wipe1 {K : PySem.W.Frag} {M : Md} {J : Res} {W0 W : Wd} {σ : St} {ρ : List Sl} (E : Env K M J W0 W σ ρ) (j : Nat) : Env K M J W0 W (σ.set j none) (ρ.set j .un) := by
  have get : ∀ {i : Nat} {q : Sl}, (ρ.set j .un)[i]? = some q → q = .un ∨ (i ≠ j ∧ ρ[i]? = some q) := fun {i q} hq => by
    by_cases e : j = i
    · subst e
      by_cases hj : j < ρ.length
      · rw [List.getElem?_set_self hj] at hq
        exact .inl (Option.some.inj hq).symm
      · rw [List.getElem?_eq_none (by rw [List.length_set]; omega)] at hq; cases hq
    · rw [List.getElem?_set_ne e] at hq
      exact .inr ⟨fun z => e z.symm, hq⟩
  have geto : ∀ {i : Nat} {q : Sl}, (ρ.set j .un)[i]? = some q → isOwn q = true → ρ[i]? = some q := fun {i q} hq ho => by
    rcases get hq with e | ⟨_, e⟩
    · subst e; cases ho
    · exact e
  refine ⟨E.ok, E.st, by rw [List.length_set, List.length_set]; exact E.len, fun i r h => ?_, fun i k p q q' h1 h2 o1 o2 a1 a2 => E.ds i k p q q' (geto h1 o1) (geto h2 o2) o1 o2 (at_wipe1 a1).1 (at_wipe1 a2).1, E.res, E.sep, fun i p q h1 h2 h3 => E.nof i p q (geto h1 h2) h2 (at_wipe1 h3).1, fun i ds h => ?_, E.nt⟩
  · rcases get h with e | ⟨n, e⟩
    · subst e; exact True.intro
    · rw [at_set_ne (fun z => n z.symm)]
      exact E.sl i r e
  · rcases get h with e | ⟨n, e⟩
    · cases e
    · exact E.nob i ds e
theorem Env.wipe {K : PySem.W.Frag} {M : Md} {J : Res} {W0 W : Wd} {σ : St} {ρ : List Sl} (E : Env K M J W0 W σ ρ) : ∀ vs : List Nat, Env K M J W0 W (L2.wipe σ vs) (wipeS ρ vs)
  | [] => E
  | v :: vs => (Env.wipe E vs).wipe1 v
theorem wipe_put {σ : St} {o : Option V} {i : Nat} : ∀ {vs : List Nat}, i ∈ vs → L2.wipe (σ.set i o) vs = L2.wipe σ vs
  | v :: vs, h => by
    unfold L2.wipe
    by_cases e : i = v
    · subst e
      have key : ∀ (ws : List Nat), (L2.wipe (σ.set i o) ws).set i none = (L2.wipe σ ws).set i none := fun ws => by
        induction ws with
        | nil => show (σ.set i o).set i none = σ.set i none; rw [List.set_set]
        | cons w ws ih =>
          unfold L2.wipe
          by_cases e2 : w = i
          · subst e2; rw [List.set_set, List.set_set, ih]
          · rw [List.set_comm _ _ e2, ih, List.set_comm _ _ (Ne.symm e2)]
      exact key vs
    · have h' : i ∈ vs := (List.mem_cons.mp h).resolve_left e
      rw [wipe_put h']
theorem wipe_twice {σ : St} : ∀ {vs : List Nat}, L2.wipe (L2.wipe σ vs) vs = L2.wipe σ vs := by
  intro vs
  have key : ∀ (ws us : List Nat), (∀ w ∈ us, w ∈ ws) → L2.wipe (L2.wipe σ us) ws = L2.wipe σ ws := fun ws us => by
    induction us with
    | nil => intro _; rfl
    | cons u us ih =>
      intro h
      show L2.wipe ((L2.wipe σ us).set u none) ws = _
      rw [wipe_put (h u List.mem_cons_self)]
      exact ih fun w hw => h w (List.mem_cons_of_mem _ hw)
  exact key vs vs fun _ h => h
/-- the block's own action -/
abbrev bAct (A : Act) (s : Shared) (H : Hp) (scope : Scope) (cl : List (Str × Addr)) (C : Addr) (fp : List Addr) : Act := ⟨A.X.blk s H scope (compEnvC scope cl C A.X.env) fp, A.M, A.W0, fun _ _ _ => False, fun _ _ => False⟩
theorem bExits {A : Act} {s : Shared} {H : Hp} {scope : Scope} {cl : List (Str × Addr)} {C : Addr} {fp : List Addr} : Exits (bAct A s H scope cl C fp) := fun _ _ _ _ _ z => z.elim
theorem bTakes {A : Act} {s : Shared} {H : Hp} {scope : Scope} {cl : List (Str × Addr)} {C : Addr} {fp : List Addr} : Takes (bAct A s H scope cl C fp).X fun cls d _ H' => (bAct A s H scope cl C fp).E cls d H' := LamX.takes0
/-- a target of the block: only the slots vs are written -/
def WgcT (A : Act) (tg : Expr) (ρ : List Sl) (J : Res) (r : Sl) (vs : List Nat) (N : List Sl → Prop) : Prop := ∀ (W : Wd) (σ : St) (v : V) (Q : St → Hp → Prop), EnvA A J W σ ρ → RtA A J W σ ρ v r → (∀ ρ' σ', N ρ' → EnvA A J W σ' ρ' → L2.wipe σ' vs = L2.wipe σ vs → Q σ' W.H) → tG A.X tg v σ W.H Q
structure Wgc (A : Act) (tg : Expr) (ρ : List Sl) (J : Res) (r : Sl) (vs : List Nat) (N : List Sl → Prop) : Prop where
  run : WgcT A tg ρ J r vs N
instance (A : Act) (tg : Expr) (ρ : List Sl) (J : Res) (r : Sl) (vs : List Nat) (N : List Sl → Prop) : CoeFun (Wgc A tg ρ J r vs N) (fun _ => WgcT A tg ρ J r vs N) := ⟨Wgc.run⟩
def WgcsT (A : Act) (tgs : List Expr) (ρ : List Sl) (J : Res) (ds : List PyData) (vs : List Nat) (N : List Sl → Prop) : Prop := ∀ (W : Wd) (σ : St) (xs : List V) (Q : St → Hp → Prop), EnvA A J W σ ρ → DpAll A.X.K W.B xs ds → (∀ ρ' σ', N ρ' → EnvA A J W σ' ρ' → L2.wipe σ' vs = L2.wipe σ vs → Q σ' W.H) →
  ∀ (pins : List (Addr × Obj)) (s : Shared) (us : List Value), Inv A.X pins σ W.H s → Vals xs us → wpAny (model A.X.prog A.X.w) A.X.A (assignInOrder ((assignEach tgs A.X.env).map (·.2)) us) (fun _ s' => ∃ σ' H', Inv A.X pins σ' H' s' ∧ Q σ' H') A.X.xe s
structure Wgcs (A : Act) (tgs : List Expr) (ρ : List Sl) (J : Res) (ds : List PyData) (vs : List Nat) (N : List Sl → Prop) : Prop where
  run : WgcsT A tgs ρ J ds vs N
instance (A : Act) (tgs : List Expr) (ρ : List Sl) (J : Res) (ds : List PyData) (vs : List Nat) (N : List Sl → Prop) : CoeFun (Wgcs A tgs ρ J ds vs N) (fun _ => WgcsT A tgs ρ J ds vs N) := ⟨Wgcs.run⟩
section
variable {A : Act} {ρ : List Sl} {J : Res} {e : Expr} {pos : Pos} {vs : List Nat}
theorem wgc_name (i : Nat) {x : Str} {r : Sl} {N : List Sl → Prop} (h : N (ρ.set i r)) (hN : A.X.N.Nodup) (hv : i ∈ vs := by decide) (hb : isBor r = false := by rfl) (hi : A.X.N[i]? = some x := by rfl) (hx : Loc A.X.env.scope x := by first | exact Or.inl rfl | exact Or.inr rfl)
    (hf : A.X.fn x = true ∨ A.X.env.scope.names.lookup x = some .local := by first | exact .inl rfl | exact .inr rfl) : Wgc A (.Name x pos) ρ J r vs N := .mk fun W σ v Q E o k =>
  g_at (pg_name hN hi hx hf) (show Q (σ.set i (some v)) W.H from k _ _ h (E.set i o (nbor hb)) (wipe_put hv))
theorem wgcs_nil {N : List Sl → Prop} (h : N ρ) : Wgcs A [] ρ J [] vs N := .mk fun W σ xs Q E hd k pins s us I r => by
  cases hd
  exact pgs_nil.run pins s σ W.H [] us Q I r ⟨rfl, k ρ σ h E rfl⟩
theorem wgcs_cons {tg : Expr} {tgs : List Expr} {d : PyData} {ds : List PyData} {N : List Sl → Prop} (h : Wgc A tg ρ J (.dat d) vs fun ρ' => Wgcs A tgs ρ' J ds vs N) (hs : (assignEach (tg :: tgs) A.X.env).map (·.2) = assign tg A.X.env :: (assignEach tgs A.X.env).map (·.2) := by rfl) : Wgcs A (tg :: tgs) ρ J (d :: ds) vs N := .mk fun W σ xs Q E hd k pins s us I r => by
  cases hd with
  | cons h1 h2 =>
    refine (pgs_cons pg_sem pgs_sem hs).run pins s σ W.H _ us Q I r ⟨_, _, rfl, ?_⟩
    exact h W σ _ _ E (RtA.dat h1) fun ρ' σ' q E' w => (show Wgcs A tgs ρ' J ds vs N from q) W σ' _ Q E' h2 fun ρ2 σ2 q2 E2 w2 => k ρ2 σ2 q2 E2 (w2.trans w)
theorem wgc_tup {tgs : List Expr} {j} {ds : List PyData} {N : List Sl → Prop} (hc : A.X.calm = true) (h : Wgcs A tgs ρ J ds vs N) (hn : (assignEach tgs A.X.env).length = ds.length := by rfl) (hst : (assignEach tgs A.X.env).findIdx? (·.1) = none := by rfl) : Wgc A (.Tuple tgs j pos) ρ J (dT ds) vs N := .mk fun W σ v Q E o k => by
  obtain ⟨a, xs, rfl, q1, _, p1⟩ := o.tup E.ok
  exact g_at (pg_tup hc pgs_sem rfl hst) ⟨a, xs, rfl, q1, by rw [DpAll.len p1, hn], fun pins s us I r => h W σ xs Q E p1 k pins s us I r⟩
/-- the clause's tests -/
def Wts (A : Act) (ifs : List Expr) (ρ : List Sl) (J : Res) (R : Bool → Prop) : Prop := match ifs with
  | [] => R true
  | [c] => Wt A c ρ J R
  | _ => False
def tTs (X : Cx) (scope : Scope) (ifs : List Expr) : L2.TT := match ifs with
  | [] => tYes
  | [c] => fun σ H Q => ∀ (s : Shared) (H0 : Hp) (C : Addr) (cl : List (Str × Addr)) (fp : List Addr), tT (X.blk s H0 scope (compEnvC scope cl C X.env) fp) c σ H Q
  | _ => fun _ _ _ => False
theorem pts_sem {X : Cx} {scope : Scope} {ifs : List Expr} (hl : ifs.length ≤ 1) (s : Shared) (H : Hp) (C : Addr) (cl : List (Str × Addr)) (fp : List Addr) : PTs (X.blk s H scope (compEnvC scope cl C X.env) fp) ifs (tTs X scope ifs) := by
  match ifs, hl with
  | [], _ => exact pts_nil
  | [c], _ => exact pts_one ⟨fun pins s' σ H' Q I h => h s H C cl fp pins s' I⟩
  | _ :: _ :: _, h => exact absurd h (by simp)
/-- one turn -/
def Turn (A : Act) (scope : Scope) (vs : List Nat) (tg elt : Expr) (ifs : List Expr) (ρ : List Sl) (J : Res) (r : Sl) (acc : List PyData) (R : List PyData → Prop) : Prop := ∃ (ρ2 : List Sl) (k : Bool),
  (∀ (s : Shared) (H : Hp) (C : Addr) (cl : List (Str × Addr)) (fp : List Addr) (D : Addr), Wgc (bAct A s H scope cl C fp) tg (wipeS ρ vs) ((Res.lst A.X.K D acc).star J) r vs fun ρ' => ρ' = ρ2) ∧
  (∀ (s : Shared) (H : Hp) (C : Addr) (cl : List (Str × Addr)) (fp : List Addr) (D : Addr), Wts (bAct A s H scope cl C fp) ifs ρ2 ((Res.lst A.X.K D acc).star J) fun b => b = k) ∧
  if k = true then ∃ d, acc.length < 100000 ∧ R (acc ++ [d]) ∧ ∀ (s : Shared) (H : Hp) (C : Addr) (cl : List (Str × Addr)) (fp : List Addr) (D : Addr), We (bAct A s H scope cl C fp) elt ρ2 ((Res.lst A.X.K D acc).star J) fun q => q = .dat d else R acc
def gB (X : Cx) (scope : Scope) (tg : Expr) : TG := fun v σ H Q => ∀ (s : Shared) (H0 : Hp) (C : Addr) (cl : List (Str × Addr)) (fp : List Addr), tG (X.blk s H0 scope (compEnvC scope cl C X.env) fp) tg v σ H Q
def eB (X : Cx) (scope : Scope) (e : Expr) : TE := fun σ H Q => ∀ (s : Shared) (H0 : Hp) (C : Addr) (cl : List (Str × Addr)) (fp : List Addr), tE (X.blk s H0 scope (compEnvC scope cl C X.env) fp) e σ H Q
/-- the state between the turns -/
def LcI (A : Act) (ρ : List Sl) (J : Res) (σ : St) (vs : List Nat) (D : Addr) (W1 : Wd) (Iv : List PyData → Prop) (H : Hp) : Prop := ∃ (W' : Wd) (acc : List PyData), W'.H = H ∧ Stp0 W1 W' ∧ Iv acc ∧ EnvA A ((Res.lst A.X.K D acc).star J) W' (L2.wipe σ vs) (wipeS ρ vs)
theorem lci_start {σ : St} {W1 : Wd} {D : Addr} {Iv : List PyData → Prop} (E : EnvA A J W1 σ ρ) (hD : W1.H D = none) (h : Iv []) : LcI A ρ J σ vs D W1 Iv (upd W1.H D (.lst [])) := by
  have s := Stp.mine (o := .lst []) E.ok hD
  have E1 := (E.up s).wipe vs
  have E0 := E.wipe vs
  have fr := E.fresh (Nt.not hD)
  refine ⟨⟨W1.B, upd W1.H D (.lst [])⟩, [], rfl, s, h, ⟨E1.ok, E1.st, E1.len, E1.sl, E1.ds, ⟨⟨[], upd_same, .nil⟩, E1.res, fun x y z => fr.1 (by rw [← show x = D from y]; exact z)⟩, fun x hx => ?_, fun i p q h1 h2 h3 z => ?_, E1.nob, E1.nt⟩⟩
  · rcases hx with hx | hx
    · have hx : x = D := hx
      subst hx
      exact ⟨E.ok.free hD, Nt.lst upd_same, .inr (E.live (Nt.not hD))⟩
    · exact E1.sep x hx
  · rcases z with z | z
    · have z : p = D := z
      subst z
      exact (E0.fresh (Nt.not hD)).2 i q h1 h2 h3
    · exact E1.nof i p q h1 h2 h3 z
theorem lci_turn {σ : St} {W1 : Wd} {D : Addr} {Iv Iv' : List PyData → Prop} {scope : Scope} {tg elt : Expr} {ifs : List Expr} {H : Hp} {x : V} {r : Sl} (E0 : EnvA A J W1 σ ρ) (hD : W1.H D = none) (h : LcI A ρ J σ vs D W1 Iv H) (hx : ∀ W', Stp0 W1 W' → VOk A.X.K A.W0 W' x r) (hr : isMine r = false)
    (ht : ∀ acc, Iv acc → Turn A scope vs tg elt ifs ρ J r acc Iv') (hl : ifs.length ≤ 1) : gB A.X scope tg x (L2.wipe σ vs) H fun σ2 H2 => L2.wipe σ2 vs = L2.wipe σ vs ∧ tTs A.X scope ifs σ2 H2 fun b H3 =>
      if b = true then eB A.X scope elt σ2 H3 fun y H4 => ∃ acc, H4 D = some (.lst acc) ∧ acc.length < sizeLine ∧ LcI A ρ J σ vs D W1 Iv' (upd H4 D (.lst (acc ++ [y]))) else LcI A ρ J σ vs D W1 Iv' H3 := by
  obtain ⟨W', acc, rfl, s1, iv, E1⟩ := h
  obtain ⟨ρ2, kb, hg, hts, hk⟩ := ht acc iv
  intro s H0 C cl fp
  refine hg s H0 C cl fp D W' (L2.wipe σ vs) x _ E1 (RtOk.of (hx W' s1) hr) fun ρ2' σ2 hw E2 w2 => ?_
  subst hw
  rw [wipe_twice] at w2
  refine ⟨w2, ?_⟩
  -- the element
  have elem : ∀ (b : Bool) (W3 : Wd), b = kb → Stp0 W' W3 → (if b = true then eB A.X scope elt σ2 W3.H fun y H4 => ∃ acc, H4 D = some (.lst acc) ∧ acc.length < sizeLine ∧ LcI A ρ J σ vs D W1 Iv' (upd H4 D (.lst (acc ++ [y]))) else LcI A ρ J σ vs D W1 Iv' W3.H) := by
    intro b W3 hb s3
    subst hb
    cases b with
    | false =>
      rw [if_neg Bool.false_ne_true] at hk
      rw [if_neg Bool.false_ne_true]
      exact ⟨W3, acc, rfl, s1.trans s3, hk, E1.up s3⟩
    | true =>
      rw [if_pos rfl] at hk
      rw [if_pos rfl]
      obtain ⟨d, hlen, hR, he⟩ := hk
      intro s H0 C cl fp
      refine he s H0 C cl fp D W3 σ2 _ (E2.up s3) bExits fun q v W4 hq s4 o4 => ?_
      subst hq
      have E4 := (E1.up s3).up s4
      obtain ⟨us, eD, hd⟩ := E4.res.1
      refine ⟨us, eD, by rw [DpAll.len hd]; exact Nat.lt_of_lt_of_le hlen (by decide), ⟨W4.B, upd W4.H D (.lst (us ++ [v]))⟩, acc ++ [d], rfl, ?_, hR, ?_⟩
      · have st := (s1.trans s3).trans s4
        refine ⟨st.b, fun a o e => ?_, fun a o e _ => ?_, st.n, fun a e => ?_, fun a q e => code_up eD (st.c a q e), st.t⟩
        · show upd _ _ _ _ = _
          rw [upd_ne (fun z => by rw [z, (E4.sep D (.inl rfl)).1] at e; cases e)]
          exact E4.ok a o e
        · show upd _ _ _ _ = _
          rw [upd_ne (ne_of_none e hD)]
          exact st.same a o e
        · exact Nt.upd (fun ps z => by cases z) (st.l a e)
      · exact E4.put (J2 := Res.lst A.X.K D (acc ++ [d])) rfl eD (fun _ z => by cases z) (fun q z => code_ne z.symm) (fun _ => .inr (E0.live (Nt.not hD))) (fun _ z => by cases z) (fun _ z => z) fun _ => ⟨_, upd_same, DpAll.app hd (.cons o4.1 .nil)⟩
  match ifs, hl with
  | [], _ =>
    have hts := hts s H0 C cl fp D
    exact elem true W' hts (.refl E1.ok)
  | [c], _ =>
    intro s H0 C cl fp
    exact (show Wt (bAct A s H0 scope cl C fp) c ρ2' ((Res.lst A.X.K D acc).star J) (fun b => b = kb) from hts s H0 C cl fp D) W' σ2 _ E2 bExits fun b W3 hb s3 => elem b W3 hb s3
  | _ :: _ :: _, h => exact absurd h (by simp)
theorem lci_done {R : Sl → Prop} {Q : VK} {σ : St} {W1 : Wd} {D : Addr} {Iv : List PyData → Prop} {H : Hp} (E : EnvA A J W1 σ ρ) (hD : W1.H D = none) (h : LcI A ρ J σ vs D W1 Iv H) (hr : ∀ acc, Iv acc → R (.own acc)) (k : Wk A ρ J R W1 σ Q) : Q (.ref D) H := by
  obtain ⟨W', acc, rfl, s1, iv, E1⟩ := h
  obtain ⟨us, eD, hd⟩ := E1.res.1
  have fr := E.fresh (Nt.not hD)
  refine k (.own acc) (.ref D) W' (hr acc iv) s1 ⟨⟨D, us, rfl, E.live (Nt.not hD), (E1.sep D (.inl rfl)).1, eD, hd⟩, fun _ p e => ?_, fun _ p e => ?_⟩
  · injection e with e
    subst e
    exact fr.1
  · injection e with e
    subst e
    exact fr.2
/-- a comprehension's run -/
def Lc (A : Act) (elt tg iter : Expr) (ifs : List Expr) (scope : Scope) (own : List (Str × Nat)) (ρ : List Sl) (J : Res) (R : Sl → Prop) : Prop := ∃ wi : TI, PI A.X tg iter wi ∧ ∀ (W : Wd) (σ : St) (Q : VK), EnvA A J W σ ρ → Exits A → Wk A ρ J R W σ Q →
  tLc wi (gB A.X scope tg) (tTs A.X scope ifs) (eB A.X scope elt) (own.map (·.2)) σ W.H Q
theorem we_lc {R : Sl → Prop} {elt tg iter : Expr} {ifs : List Expr} {scope : Scope} {own : List (Str × Nat)} (hc : A.X.calm = true) (hN : A.X.N.Nodup) (h : Lc A elt tg iter ifs scope own ρ J R) (ok : BlkOk A.X.N A.X.env.scope scope own) (hl : ifs.length ≤ 1) (hs : ∀ x, foldedSetIterable iter A.X.env x = pure x) :
    We A (.ListComp elt [⟨tg, iter, ifs, 0⟩] scope pos) ρ J R := .mk fun W σ Q E X k => by
  obtain ⟨wi, pi, hh⟩ := h
  exact e_at (pe_lc (g := gB A.X scope tg) (tt := tTs A.X scope ifs) (te := eB A.X scope elt) hc hN pi ok (fun s H C cl fp => ⟨fun pins s' σ H' v u Q I r h => h s H C cl fp pins s' u I r⟩) (pts_sem hl) (fun s H C cl fp => ⟨fun pins s' σ H' Q I h => h s H C cl fp pins s' I⟩) hs) (hh W σ Q E X k)
/-- name = [..] on one line -/
theorem ws_setLc {nx bk ct : List Sl → Res → Prop} {rt : Sl → Res → Prop} {elt tg iter : Expr} {ifs : List Expr} {scope : Scope} {own : List (Str × Nat)} {y : Str} {py spos : Pos} (i : Nat) (hc : A.X.calm = true) (hN : A.X.N.Nodup) (h : Lc A elt tg iter ifs scope own ρ J fun r => isBor r = false ∧ nx (ρ.set i r) J) (ok : BlkOk A.X.N A.X.env.scope scope own)
    (hi : A.X.N[i]? = some y := by rfl) (hyl : A.X.env.scope.names.lookup y = some .local := by rfl) (hsw : swapsWith (.ListComp elt [⟨tg, iter, ifs, 0⟩] scope pos) (some (.Name y py)) spos.line A.X.env = pure true := by exact sw_true rfl rfl rfl rfl) (hl : ifs.length ≤ 1 := by decide) (hs : ∀ x, foldedSetIterable iter A.X.env x = pure x := by intro _; rfl) :
    Ws A (.Assign [.Name y py] (.ListComp elt [⟨tg, iter, ifs, 0⟩] scope pos) spos) ρ J nx rt bk ct := .mk fun W σ D E X k => by
  obtain ⟨wi, pi, hh⟩ := h
  refine s_at (ps_setLc hc hN hi hyl hsw pi ok (fun s H C cl fp => (⟨fun pins s' σ H' v u Q I r h => h s H C cl fp pins s' u I r⟩ : PG _ _ (gB A.X scope tg))) (pts_sem hl) (fun s H C cl fp => (⟨fun pins s' σ H' Q I h => h s H C cl fp pins s' I⟩ : PE _ _ (eB A.X scope elt))) hs) ?_
  show tLc wi (gB A.X scope tg) (tTs A.X scope ifs) (eB A.X scope elt) (own.map (·.2)) σ W.H fun x H1 => D.nx (σ.set i (some x)) H1
  refine hh W σ _ E X fun r v W1 h1 s1 o1 => ?_
  exact k.nx _ J W1 _ h1.2 s1.b ((E.up s1).set i o1 (nbor h1.1))
/-- [elt for tg in iter ..] over a list -/
theorem lc_L {R : Sl → Prop} {elt tg iter : Expr} {ifs : List Expr} {scope : Scope} (own : List (Str × Nat))
    (h : We A iter ρ J fun r => ∃ ds, dOf r = some (.list ds) ∧ isOwn r = false ∧ ∃ Iv : Nat → List PyData → Prop, Iv 0 [] ∧ (∀ i d acc, ds[i]? = some d → Iv i acc → Turn A scope (own.map (·.2)) tg elt ifs ρ J (.dat d) acc (Iv (i + 1))) ∧ ∀ acc, Iv ds.length acc → R (.own acc)) (hl : ifs.length ≤ 1 := by decide) : Lc A elt tg iter ifs scope own ρ J R := by
  refine ⟨_, (pi_list pe_sem), fun W σ Q E X k => ?_⟩
  refine h W σ _ E X fun r v W1 h1 s1 o1 => ?_
  obtain ⟨ds, hd, hno, Iv, i0, step, fin⟩ := h1
  have E1 := E.up s1
  obtain ⟨a, xs, rfl, q1, p1⟩ := o1.lst hd E1.ok
  have hlen := DpAll.len p1
  refine ⟨a, rfl, ⟨xs, q1⟩, fun D hD => lc_list (K := A.X.K) (a := a) (xs := xs) (fun i H => LcI A ρ J σ (own.map (·.2)) D W1 (Iv i) H) (lci_start E1 hD i0) (fun i H _ hi => ?_) (fun i x H hx hi => ?_) (fun H hi => ?_)⟩
  · obtain ⟨W', acc, rfl, s2, _, E2⟩ := hi
    exact s2.same.seq q1
  · obtain ⟨d, hdd, q⟩ := DpAll.at' p1 hx
    exact lci_turn (r := .dat d) E1 hD hi (fun W' s2 => Dp.up s2.b q) rfl (fun acc iv => step i d acc hdd iv) hl
  · rw [hlen] at hi
    exact lci_done E1 hD hi fin (k.from s1)
theorem lc_T {R : Sl → Prop} {elt tg iter : Expr} {ifs : List Expr} {scope : Scope} (own : List (Str × Nat))
    (h : We A iter ρ J fun r => ∃ ds, r = dT ds ∧ ∃ Iv : Nat → List PyData → Prop, Iv 0 [] ∧ (∀ i d acc, ds[i]? = some d → Iv i acc → Turn A scope (own.map (·.2)) tg elt ifs ρ J (.dat d) acc (Iv (i + 1))) ∧ ∀ acc, Iv ds.length acc → R (.own acc)) (hl : ifs.length ≤ 1 := by decide) : Lc A elt tg iter ifs scope own ρ J R := by
  refine ⟨_, (pi_tup pe_sem), fun W σ Q E X k => ?_⟩
  refine h W σ _ E X fun r v W1 h1 s1 o1 => ?_
  obtain ⟨ds, rfl, Iv, i0, step, fin⟩ := h1
  have E1 := E.up s1
  obtain ⟨a, xs, rfl, q1, _, p1⟩ := o1.tup E1.ok
  have hlen := DpAll.len p1
  refine ⟨a, rfl, ⟨xs, q1⟩, fun D hD => lc_tup (K := A.X.K) (a := a) (xs := xs) (fun i H => LcI A ρ J σ (own.map (·.2)) D W1 (Iv i) H) (lci_start E1 hD i0) (fun i H _ hi => ?_) (fun i x H hx hi => ?_) (fun H hi => ?_)⟩
  · obtain ⟨W', acc, rfl, s2, _, E2⟩ := hi
    exact seqT s2.same q1
  · obtain ⟨d, hdd, q⟩ := DpAll.at' p1 hx
    exact lci_turn (r := .dat d) E1 hD hi (fun W' s2 => Dp.up s2.b q) rfl (fun acc iv => step i d acc hdd iv) hl
  · rw [hlen] at hi
    exact lci_done E1 hD hi fin (k.from s1)
/-- over range(e) -/
theorem lc_R {R : Sl → Prop} {elt tg e : Expr} {ifs : List Expr} {scope : Scope} {p rpos : Pos} (own : List (Str × Nat)) (hm : A.X.mg "range" = none)
    (h : We A e ρ J fun r => ∃ n : Int, r = dI n ∧ n ≤ 1000000000 ∧ -1000000000 ≤ n ∧ ∃ Iv : Nat → List PyData → Prop, Iv 0 [] ∧ (∀ (i : Nat) acc, i < n.toNat → Iv i acc → Turn A scope (own.map (·.2)) tg elt ifs ρ J (dI i) acc (Iv (i + 1))) ∧ ∀ acc, Iv n.toNat acc → R (.own acc)) (hl : ifs.length ≤ 1 := by decide) (hg : Gl A.X "range" := by rfl) (hs : starEach [e] A.X.env = [(false, eval e A.X.env)] := by rfl) (hs2 : starEach [e] A.X.env = (false, eval e A.X.env) :: starEach [] A.X.env := by rfl) : Lc A elt tg (.Call (.Name "range" p) [e] [] rpos) ifs scope own ρ J R := by
  refine ⟨_, (pi_range1 hg hm (pa_cons pe_sem pa_nil hs2) hs), fun W σ Q E X k => ?_⟩
  show tE A.X e σ W.H fun y H1 => ∃ j : Int, [y] = [V.int j] ∧ -(2 ^ 62) ≤ j ∧ j < 2 ^ 62 ∧ _
  refine h W σ _ E X fun r v W1 h1 s1 o1 => ?_
  obtain ⟨n, rfl, b1, b2, Iv, i0, step, fin⟩ := h1
  have E1 := E.up s1
  refine ⟨n, by rw [dp_int o1.1], by omega, by omega, fun D hD => lc_range (lo := 0) (n := n.toNat) (fun i H => LcI A ρ J σ (own.map (·.2)) D W1 (Iv i) H) (lci_start E1 hD i0) (fun i H hn hi => ?_) (fun H hi => ?_)⟩
  · have e0 : (0 : Int) + (i : Int) = (i : Int) := Int.zero_add _
    rw [e0]
    exact lci_turn (r := dI i) E1 hD hi (fun W' s2 => (.int _ : Dp A.X.K W'.B (.int i) (.int i))) rfl (fun acc iv => step i acc hn iv) hl
  · exact lci_done E1 hD hi fin (k.from s1)
theorem we_lcL {R : Sl → Prop} {elt tg iter : Expr} {ifs : List Expr} {scope : Scope} (own : List (Str × Nat)) (hc : A.X.calm = true) (hN : A.X.N.Nodup)
    (h : We A iter ρ J fun r => ∃ ds, dOf r = some (.list ds) ∧ isOwn r = false ∧ ∃ Iv : Nat → List PyData → Prop, Iv 0 [] ∧ (∀ i d acc, ds[i]? = some d → Iv i acc → Turn A scope (own.map (·.2)) tg elt ifs ρ J (.dat d) acc (Iv (i + 1))) ∧ ∀ acc, Iv ds.length acc → R (.own acc))
    (ok : BlkOk A.X.N A.X.env.scope scope own := by exact blkOk_by (by decide +kernel)) (hl : ifs.length ≤ 1 := by decide) (hs : ∀ x, foldedSetIterable iter A.X.env x = pure x := by intro _; rfl) : We A (.ListComp elt [⟨tg, iter, ifs, 0⟩] scope pos) ρ J R := we_lc hc hN (lc_L own h hl) ok hl hs
theorem we_lcT {R : Sl → Prop} {elt tg iter : Expr} {ifs : List Expr} {scope : Scope} (own : List (Str × Nat)) (hc : A.X.calm = true) (hN : A.X.N.Nodup)
    (h : We A iter ρ J fun r => ∃ ds, r = dT ds ∧ ∃ Iv : Nat → List PyData → Prop, Iv 0 [] ∧ (∀ i d acc, ds[i]? = some d → Iv i acc → Turn A scope (own.map (·.2)) tg elt ifs ρ J (.dat d) acc (Iv (i + 1))) ∧ ∀ acc, Iv ds.length acc → R (.own acc))
    (ok : BlkOk A.X.N A.X.env.scope scope own := by exact blkOk_by (by decide +kernel)) (hl : ifs.length ≤ 1 := by decide) (hs : ∀ x, foldedSetIterable iter A.X.env x = pure x := by intro _; rfl) : We A (.ListComp elt [⟨tg, iter, ifs, 0⟩] scope pos) ρ J R := we_lc hc hN (lc_T own h hl) ok hl hs
theorem we_lcR {R : Sl → Prop} {elt tg e : Expr} {ifs : List Expr} {scope : Scope} {p rpos : Pos} (own : List (Str × Nat)) (hc : A.X.calm = true) (hN : A.X.N.Nodup) (hm : A.X.mg "range" = none)
    (h : We A e ρ J fun r => ∃ n : Int, r = dI n ∧ n ≤ 1000000000 ∧ -1000000000 ≤ n ∧ ∃ Iv : Nat → List PyData → Prop, Iv 0 [] ∧ (∀ (i : Nat) acc, i < n.toNat → Iv i acc → Turn A scope (own.map (·.2)) tg elt ifs ρ J (dI i) acc (Iv (i + 1))) ∧ ∀ acc, Iv n.toNat acc → R (.own acc))
    (ok : BlkOk A.X.N A.X.env.scope scope own := by exact blkOk_by (by decide +kernel)) (hl : ifs.length ≤ 1 := by decide) (hg : Gl A.X "range" := by rfl) (hs : starEach [e] A.X.env = [(false, eval e A.X.env)] := by rfl) (hs2 : starEach [e] A.X.env = (false, eval e A.X.env) :: starEach [] A.X.env := by rfl)
    (hf : ∀ x, foldedSetIterable (.Call (.Name "range" p) [e] [] rpos) A.X.env x = pure x := by intro _; rfl) : We A (.ListComp elt [⟨tg, .Call (.Name "range" p) [e] [] rpos, ifs, 0⟩] scope pos) ρ J R := we_lc hc hN (lc_R own hm h hl hg hs hs2) ok hl hf
end
end DL

namespace DL
open PySem PySem.Spec PyProof.Rows L2
theorem boot_isinstance : bootBuiltins "isinstance" = some (.builtin "isinstance") := by decide +kernel
theorem boot_max' : bootBuiltins "max" = some (.builtin "max") := by decide +kernel
theorem boot_min' : bootBuiltins "min" = some (.builtin "min") := by decide +kernel
theorem boot_int' : bootBuiltins "int" = some (.type "int") := by decide +kernel
theorem boot_tuple' : bootBuiltins "tuple" = some (.type "tuple") := by decide +kernel
theorem boot_list' : bootBuiltins "list" = some (.type "list") := by decide +kernel
theorem boot_bool' : bootBuiltins "bool" = some (.type "bool") := by decide +kernel
theorem boot_str' : bootBuiltins "str" = some (.type "str") := by decide +kernel
theorem boot_VE : bootBuiltins "ValueError" = some (.type "ValueError") := by decide +kernel
/-! ### classes, isinstance -/
def tyD : PyData → Option String
  | .none => some "NoneType"
  | .bool _ => some "bool"
  | .int _ => some "int"
  | .str _ => some "str"
  | .list _ => some "list"
  | .tuple _ => some "tuple"
  | .dict _ => none
theorem tyX_of {K : PySem.W.Frag} {H : Hp} {v : V} {d : PyData} {t : String} (h : Dp K H v d) (e : tyD d = some t) : TyX K H v (.type t) := by
  cases h with
  | non => cases e; exact .base .non
  | bl b => cases e; exact .base (.bl b)
  | int b => cases e; exact .base (.int b)
  | str b => cases e; exact .base (.str b)
  | lst hs _ =>
    cases e
    rcases hs with (h | ⟨o, h⟩) | ⟨o, its, n, h, c, _⟩
    · exact .base (.lst h)
    · exact .base (.frz h)
    · exact .kList h c
  | tup hs _ =>
    cases e
    rcases hs with (h | ⟨o, h⟩) | ⟨o, its, n, h, c, _⟩
    · exact .base (.tup h)
    · exact .fTuple h
    · exact .kTuple h c
section
variable {A : Act} {ρ : List Sl} {J : Res} {R : Sl → Prop} {a b e o : Expr} {es : List Expr} {pos p apos : Pos}
/-- the name of a builtin class -/
theorem we_ty {x : Str} {T : String} (hm : A.X.mg x = none) (hv : bootBuiltins x = some (.type T)) (h : R (.raw (.ty T))) (hg : Gl A.X x := by rfl) (hn : x ≠ "__name__" := by decide) (hdb : (x == ("__debug__" : Str)) = false := by decide) : We A (.Name x pos) ρ J R := .mk fun W σ Q E X k =>
  e_at (pe_bltn (v := .ty T) hg hm hv rfl hn hdb) (show Q (.ty T) W.H from k.now E h (RtOk.of rfl))
/-- the name of an object -/
theorem we_own {x : Str} {C : Addr} (hm : A.X.mg x = some (.ref C)) (h : R (.raw (.ref C))) (hg : Gl A.X x := by rfl) (hdb : (x == ("__debug__" : Str)) = false := by decide) : We A (.Name x pos) ρ J R := .mk fun W σ Q E X k =>
  e_at (pe_glob (v := .ref C) hg hm rfl hdb) (show Q (.ref C) W.H from k.now E h (RtOk.of rfl))
theorem cd_isi {r : Sl} {d : PyData} {t T : String} {b : Bool} (hd : dOf r = some d) (ht : tyD d = some t) (hk : kitB t T = some b) (h : R (dB b)) : Cd A (.builtin "isinstance") ρ J [r, .raw (.ty T)] R := .mk fun W σ vs Q E o k => by
  cases o with
  | cons o1 o2 =>
    cases o2 with
    | cons o2 on =>
      cases on
      have e2 := o2.1
      subst e2
      exact c_at call_isi ⟨_, _, _, _, b, rfl, .ty T, tyX_of (o1.dp hd E.ok) ht, kit_ty hk, k.now E h RtA.bl⟩
/-! ### join, max, min, str * int -/
theorem DpAll.strs {K : PySem.W.Frag} {H : Hp} (zs : List Str) : DpAll K H (zs.map V.str) (zs.map PyData.str) := by
  induction zs with
  | nil => exact .nil
  | cons z r ih => exact .cons (.str z) ih
theorem we_join {z : Str} (h : We A o ρ J fun r => r = dS z ∧ We A e ρ J fun r2 => ∃ zs : List Str, dOf r2 = some (.list (zs.map .str)) ∧ (zs.map (·.length)).sum + zs.length * z.length ≤ 1000000 ∧ R (dS (Txt.join z zs)))
    (hs : starEach [e] A.X.env = [(false, eval e A.X.env)] := by rfl) (hbase : attributeBase o "join" A.X.env (eval o A.X.env) = eval o A.X.env := by rfl) (hline : (apos.endLine == pos.line) = true := by rfl) : We A (.Call (.Attribute o "join" apos) [e] [] pos) ρ J R := .mk fun W σ Q E X k => by
  refine e_at (pe_join pe_sem pe_sem hs hbase hline) ?_
  show tE A.X o σ W.H fun x H1 => (∃ a, x = .str a) ∧ tE A.X e σ H1 fun y H2 => ∃ a p, ∃ ys : List Str, x = .str a ∧ [y] = [.ref p] ∧ (SqL A.X.K H2 p (ys.map V.str) ∨ SqT A.X.K H2 p (ys.map V.str)) ∧ (ys.map (·.length)).sum + ys.length * a.length ≤ 16777216 ∧ Q (.str (Txt.join a ys)) H2
  refine h W σ _ E X fun r v W1 h1 s1 o1 => ?_
  obtain ⟨rfl, h1⟩ := h1
  refine ⟨⟨z, dp_str o1.1⟩, h1 W1 σ _ (E.up s1) X fun r2 v2 W2 h2 s2 o2 => ?_⟩
  obtain ⟨zs, hd, hl, hr⟩ := h2
  have E2 := (E.up s1).up s2
  obtain ⟨q, xs, rfl, q1, p1⟩ := o2.lst hd E2.ok
  have ex := DpAll.of_strs p1
  subst ex
  exact ⟨z, q, zs, dp_str o1.1, rfl, .inl q1, Nat.le_trans hl (by decide), (k.from (s1.trans s2)).now E2 hr RtA.str⟩
theorem cd_maxL {r : Sl} {ns : List Int} (hc : A.X.calm = true) (hd : dOf r = some (.list (ns.map .int))) (hl : 0 < ns.length) (h : ∀ m, m ∈ ns → (∀ y, y ∈ ns → y ≤ m) → R (dI m)) : Cd A (.builtin "max") ρ J [r] R := .mk fun W σ vs Q E o k => by
  cases o with
  | cons o1 on =>
    cases on
    obtain ⟨q, xs, rfl, q1, p1⟩ := o1.lst hd E.ok
    have ex := DpAll.of_ints p1
    subst ex
    exact c_at (cr_max hc) ⟨q, ns, rfl, q1, hl, fun m hm hy => k.now E (h m hm hy) RtA.int⟩
theorem alike_ints {ns : List Int} : PySem.W.AlikeAll (ns.map PyData.int) := by
  refine ⟨fun x hx y hy => ?_, fun x hx => ?_⟩
  · obtain ⟨i, _, rfl⟩ := List.mem_map.mp hx
    obtain ⟨j, _, rfl⟩ := List.mem_map.mp hy
    rfl
  · obtain ⟨i, _, rfl⟩ := List.mem_map.mp hx
    exact fun z => nomatch z
theorem reads_ints {h : Heap} : ∀ {ns : List Int} {us : List Value}, Vals (ns.map V.int) us → ReadsAll h us (ns.map .int) []
  | [], _, .nil => .nil
  | n :: r, _, .cons ⟨t, e⟩ q => by
    subst e
    exact ReadsAll.cons (as := []) (bs := []) (.int n t) (reads_ints q)
theorem depth_ints : ∀ (ns : List Int), PyData.depthAll (ns.map PyData.int) ≤ 1
  | [] => by decide
  | n :: r => by
    show max (PyData.depth (.int n)) (PyData.depthAll (r.map PyData.int)) ≤ 1
    exact Nat.max_le.mpr ⟨Nat.zero_le 1, depth_ints r⟩
def rMaxT (X : Cx) : List V → Hp → VK → Prop := fun vs H Q => ∃ (a : Addr) (n : Int) (ns : List Int), vs = [V.ref a] ∧ SqT X.K H a ((n :: ns).map V.int) ∧ X.A.units + 2 < cLine ∧ Q (.int (ns.foldl max n)) H
def rMinT (X : Cx) : List V → Hp → VK → Prop := fun vs H Q => ∃ (a : Addr) (n : Int) (ns : List Int), vs = [V.ref a] ∧ SqT X.K H a ((n :: ns).map V.int) ∧ X.A.units + 2 < cLine ∧ Q (.int (ns.foldl min n)) H
theorem cr_maxT {X : Cx} (hc : X.calm = true) : CallR X (.builtin "max") (rMaxT X) := by
  intro pins s σ H vs us Q I r h
  obtain ⟨a, n, ns, rfl, hs, hu, q⟩ := h
  obtain ⟨its, rv, hl, _⟩ := I.tuple hs
  rw [Vals.ref1 r]
  refine PySem.W.max_tuple_data (xs := ns.map PyData.int) (x := .int n) (I.ok.hd hc) hl (show ReadsAll s.heap its.toArray.toList ((n :: ns).map PyData.int) [] from reads_ints rv) (alike_ints (ns := n :: ns)) (Nat.lt_of_le_of_lt (Nat.add_le_add_left (depth_ints (n :: ns)) _) hu) fun i v h' tk bs hv hr hk => ?_
  rw [PySem.W.maxD_ints] at hr
  cases hr with
  | int i t => exact ⟨.int _, H, I.kept hk, ⟨_, rfl⟩, q⟩
theorem cr_minT {X : Cx} (hc : X.calm = true) : CallR X (.builtin "min") (rMinT X) := by
  intro pins s σ H vs us Q I r h
  obtain ⟨a, n, ns, rfl, hs, hu, q⟩ := h
  obtain ⟨its, rv, hl, _⟩ := I.tuple hs
  rw [Vals.ref1 r]
  refine PySem.W.min_tuple_data (xs := ns.map PyData.int) (x := .int n) (I.ok.hd hc) hl (show ReadsAll s.heap its.toArray.toList ((n :: ns).map PyData.int) [] from reads_ints rv) (alike_ints (ns := n :: ns)) (Nat.lt_of_le_of_lt (Nat.add_le_add_left (depth_ints (n :: ns)) _) hu) fun i v h' tk bs hv hr hk => ?_
  rw [PySem.W.minD_ints] at hr
  cases hr with
  | int i t => exact ⟨.int _, H, I.kept hk, ⟨_, rfl⟩, q⟩
theorem cd_maxT {n : Int} {ns : List Int} (hc : A.X.calm = true) (hu : A.X.A.units + 2 < cLine) (h : R (dI (ns.foldl max n))) : Cd A (.builtin "max") ρ J [dT ((n :: ns).map .int)] R := .mk fun W σ vs Q E o k => by
  cases o with
  | cons o1 on =>
    cases on
    obtain ⟨q, xs, rfl, q1, _, p1⟩ := o1.tup E.ok
    have ex := DpAll.of_ints (ns := n :: ns) p1
    subst ex
    exact c_at (cr_maxT hc) ⟨q, n, ns, rfl, q1, hu, k.now E h RtA.int⟩
theorem cd_minT {n : Int} {ns : List Int} (hc : A.X.calm = true) (hu : A.X.A.units + 2 < cLine) (h : R (dI (ns.foldl min n))) : Cd A (.builtin "min") ρ J [dT ((n :: ns).map .int)] R := .mk fun W σ vs Q E o k => by
  cases o with
  | cons o1 on =>
    cases on
    obtain ⟨q, xs, rfl, q1, _, p1⟩ := o1.tup E.ok
    have ex := DpAll.of_ints (ns := n :: ns) p1
    subst ex
    exact c_at (cr_minT hc) ⟨q, n, ns, rfl, q1, hu, k.now E h RtA.int⟩
theorem rep_size (a : Array Nat) : ∀ (k : Nat) (b : Array Nat), ((List.replicate k a).foldl (· ++ ·) b).size = b.size + k * a.size
  | 0, b => by simp
  | k + 1, b => by
    show ((List.replicate k a).foldl (· ++ ·) (b ++ a)).size = _
    rw [rep_size a k, Array.size_append, Nat.succ_mul]
    omega
def repS (z : Str) (n : Int) : Str := if n < 1 then Str.empty else if (n == 1 || z.length == 0) = true then z else ⟨(List.replicate n.toNat z.cps).foldl (· ++ ·) #[]⟩
theorem op_mulS {X : Cx} : OpR X (binaryOp .Mult) (fun x y H Q => ∃ z n, x = .str z ∧ y = .int n ∧ n ≤ 1000 ∧ -1000 ≤ n ∧ z.length ≤ 1000 ∧ Q (.str (repS z n)) H) := by
  intro pins s σ H x y v u Q I rx ry h
  obtain ⟨z, n, rfl, rfl, h1, h2, h3, q⟩ := h
  obtain ⟨t, rfl⟩ := rx
  obtain ⟨t', rfl⟩ := ry
  refine PySem.P.mul_str ?_ (fun h4 h5 => ?_) (fun h4 h5 => ?_) ?_
  · have e1 : ¬ n < -(2 ^ 63 : Int) := by omega
    have e2 : ¬ n ≥ 2 ^ 63 := by omega
    rw [decide_eq_false e1, decide_eq_false e2]; rfl
  · have e3 : (2 ^ 63 - 1) / n ≥ (1000000 : Int) := by
      rw [ge_iff_le, Int.le_ediv_iff_mul_le (by omega)]
      omega
    omega
  · have e4 : z.length * n.toNat ≤ 1000 * 1000 := Nat.mul_le_mul h3 (by omega)
    refine decide_eq_false (fun z5 => ?_)
    have e5 : (1000000 : Nat) ≤ sizeLine := by decide
    omega
  · unfold repS at q
    by_cases c1 : n < 1
    · rw [if_pos c1] at q ⊢
      exact ⟨by decide, .str _, H, I.tok _, ⟨_, rfl⟩, q⟩
    · rw [if_neg c1] at q ⊢
      by_cases c2 : (n == 1 || z.length == 0) = true
      · rw [if_pos c2] at q ⊢
        exact ⟨.str _, H, I, ⟨_, rfl⟩, q⟩
      · rw [if_neg c2] at q ⊢
        refine ⟨?_, .str _, H, I.tok _, ⟨_, rfl⟩, q⟩
        have e4 : n.toNat * z.length ≤ 1000 * 1000 := Nat.mul_le_mul (by omega) h3
        have e5 : (1000 * 1000 : Nat) ≤ sizeLine := by decide
        show ((List.replicate n.toNat z.cps).foldl (· ++ ·) #[]).size ≤ sizeLine
        rw [rep_size]
        exact Nat.le_trans (by show (#[] : Array Nat).size + n.toNat * z.length ≤ _; simpa using e4) e5
theorem od_mulS {z : Str} {n : Int} (h1 : n ≤ 1000) (h2 : -1000 ≤ n) (h3 : z.length ≤ 1000) (h : R (dS (repS z n))) : Od A (binaryOp .Mult) ρ J (dS z) (dI n) R := od_val _ op_mulS fun W σ v1 v2 Q E o1 o2 k =>
  ⟨z, n, dp_str o1.1, dp_int o2.1, h1, h2, h3, k.now E h RtA.str⟩
end
end DL

namespace PySem.W
open PySem PySem.Spec PyProof.Rows
section
variable {prog : Program} {w : World} {A : Around} {E : Value → Shared → Prop} {s : Shared} {K : Frag} {D x : Addr} {ox : Obj} {od : Option Obj}
theorem dl_classX {od : Obj} {Q : Option Value → Shared → Prop} (hga : findIn K (.ref D) "__getattribute__" = some (some (.builtin "BaseException.__getattribute__"))) (hgt : findIn K (.ref D) "__getattr__" = some none) (hsub : subIn K (.ref D) (.type "BaseException") = some true)
    (hdct : hasDictIn K D = true) (ha : findIn K (.ref D) "__class__" = some (some (.builtin "object.__class__")))
    (hn : specialIn K (.builtin "object.__class__") "__get__" = some (some (.builtin "getset_descriptor.__get__"))) (htk : takesIn K (.builtin "object.__class__") = some true) (hm : mroIn K D (.type "object") = some true)
    (X : K.In s.heap) (I : InstAt s.heap x ox D (some od)) (h : Q (some (.ref D)) { s with toks := s.toks + 1 }) : wpAny (model prog w) A (getAttr? (.ref x) "__class__") Q E s := by
  have hf : findObj K D (some od) "__class__" = some (.bind (.builtin "getset_descriptor.__get__") (.builtin "object.__class__")) := findObj_data (by obtain ⟨cd, hc, _⟩ := any_some hdct; rw [hc]; rfl) ha hn htk
  obtain ⟨hp, g, d, t, os⟩ := s
  have L0 := I.type (M := model prog w)
  have L1 := looks_findIn (M := model prog w) X hga
  have L2 := looks_findIn (M := model prog w) X hgt
  have L3 := looks_find (M := model prog w) X I hf
  have sub : Looks (model prog w) hp (isInstance (.ref x) (.type "BaseException")) true := L0.andThen (looks_subIn X hsub)
  have hx0 : (false && onTheHeap (Value.builtin "BaseException.__getattribute__")) = false := rfl
  have hx2 : (Value.builtin "BaseException.__getattribute__" == Value.builtin "object.__getattribute__") = false := by decide +kernel
  have hx1 : (onTheHeap (Value.ref D) && Value.builtin "BaseException.__getattribute__" == Value.builtin "object.__getattribute__") = false := by rw [hx2]; rfl
  unfold getAttr? getAttrBy? getAttrBy
  refine wpAny_bind (wpAny_mkText (wpAny_bind (wpAny_attempt (wpAny_holding (wpAny_bind (L0.at (wpAny_bind (L1.at ?_))))))))
  show wpAny _ _ (if (onTheHeap (Value.ref D) && Value.builtin "BaseException.__getattribute__" == Value.builtin "object.__getattribute__") = true then _ else _) _ _ _
  rw [hx1, if_neg Bool.false_ne_true]
  unfold getAttrByItsOwn hookBefore
  refine wpAny_bind ?_
  rw [if_pos (show onTheHeap (Value.ref D) = true from rfl)]
  refine L2.at ?_
  refine wpAny_bind (wpAny_attempt (wpAny_holding ?_))
  unfold callGetattribute
  rw [hx0, if_neg Bool.false_ne_true]
  unfold boundAndCalled
  rw [PySem.F.excAttr_ValueError.ga.bind (.ref x)]
  refine wpAny_bind (wpAny_pure ?_)
  show wpAny _ _ (call (.builtin "BaseException.__getattribute__") [.ref x, .str "__class__" t]) _ _ _
  refine wpAny_call (codeAny_call_builtin PySem.F.excAttr_ValueError.ga.plain PySem.F.entry_bexc_ga ?_)
  refine @check_slot (model prog w) _ _ ⟨hp, g, d, t + 1, os⟩ "BaseException.__getattribute__" "BaseException" "__getattribute__" (.ref x) [.str "__class__" t] [] _ (by decide +kernel) (by decide +kernel) sub (PySem.F.args_bexc_ga (.ref x) (.str "__class__" t)) ?_
  unfold Builtin.«object.__getattribute__»
  refine wpAny_bind (wpAny_of_eq (a := ((Value.ref x : Value), [Value.str "__class__" t])) (by first | rfl | (simp only [slotArgs]; rfl)) ?_)
  refine wpAny_bind (wpAny_pure (wpAny_bind (L0.at (wpAny_bind (L3.at ?_)))))
  show wpAny _ _ (holding [Value.builtin "object.__class__"] (call (.builtin "getset_descriptor.__get__") [.builtin "object.__class__", .ref x, .ref D]) >>= ret) _ _ _
  refine wpAny_bind (wpAny_holding (wpAny_call (class_get (s := ⟨hp, g, d, t + 1, os⟩) (ox := ox) (od := some od) X I hm ?_)))
  refine wpAny_pure ?_
  show wpAny _ _ (handedOut (.ref D)) _ _ _
  rw [handedOut_of (v := .ref D) rfl]
  first
    | exact wpAny_pure (wpAny_pure h)
    | exact wpAny_pure h
    | exact wpAny_pure (wpAny_bind (wpAny_pure (wpAny_pure h)))
theorem dl_kitx {od : Obj} (hga : findIn K (.ref D) "__getattribute__" = some (some (.builtin "BaseException.__getattribute__"))) (hgt : findIn K (.ref D) "__getattr__" = some none) (hsub : subIn K (.ref D) (.type "BaseException") = some true) (hdct : hasDictIn K D = true) (ha : findIn K (.ref D) "__class__" = some (some (.builtin "object.__class__")))
    (hn : specialIn K (.builtin "object.__class__") "__get__" = some (some (.builtin "getset_descriptor.__get__"))) (htk : takesIn K (.builtin "object.__class__") = some true) (hm : mroIn K D (.type "object") = some true) :
    KitX K (.ref x) (.ref D) (fun h => InstAt h x ox D (some od)) where
  ty := fun _ _ _ I => I.type
  it := fun _ _ X _ => by
    obtain ⟨cdD, hcD, _⟩ := any_some hdct
    unfold clsIn at hcD
    split at hcD
    · rename_i c' d' cd' sl' ho
      intro A' Q' E' s' k q
      unfold isType loadHead
      exact wpAny_bind (wpAny_loadPart (k _ _ (X _ _ ho)) (wpAny_pure q))
    · cases hcD
  ne := fun h tp dd its n sl X htp => by
    obtain ⟨cdD, hcD, _⟩ := any_some hdct
    refine Bool.eq_false_iff.mpr fun q => ?_
    have e : D = tp := Value.ref.inj (beq_iff_eq.mp q)
    subst e
    unfold clsIn at hcD
    split at hcD
    · rename_i c' d' cd' sl' ho
      have z := (X _ _ ho).symm.trans htp
      cases z
    · cases hcD
  ca := fun X I k => dl_classX hga hgt hsub hdct ha hn htk hm X I k
end
end PySem.W
namespace DL
open PySem PySem.Spec PyProof.Rows L2
def rIsX (K : PySem.W.Frag) (D a dd : Addr) : List V → Hp → VK → Prop := fun xs H Q => ∃ (c : V) (cv : Value) (b : Bool) (fs : List (Str × V)), xs = [.ref a, c] ∧ (∀ u, RelV c u → u = cv) ∧ H dd = some (.xd fs) ∧ PySem.W.kitOne K (.ref D) cv = some b ∧ Q (.bl b) H
theorem call_isX {X : Cx} {a D dd : Addr} {oe : Obj} {pn : List (Addr × Obj)} (C : ExcC X.K D) (hz : Zc (.ref D) (some dd) oe) (hf : ∃ vs, oe.data = .fields vs) : CallR (X.suite a ((a, oe) :: pn)) (.builtin "isinstance") (rIsX X.K D a dd) := by
  intro pins s σ H xs us Q I r h
  obtain ⟨c, cv, b, fs, rfl, hcv, hdd, e, q⟩ := h
  cases r with
  | cons rx rr =>
    cases rr with
    | cons rt rr =>
      cases rr
      cases rx
      have ec := hcv _ rt
      subst ec
      obtain ⟨hget, _⟩ := I.pin (a, oe) (List.mem_append.mpr (.inl List.mem_cons_self))
      obtain ⟨vs, hv⟩ := hf
      have hx : ObjOk X.prog X.w H s.heap dd (.xd fs) := I.hok dd _ hdd
      obtain ⟨mA, hns, hr⟩ := hx
      obtain ⟨od, ho, hl⟩ := lookIn_ns hns
      have J : PySem.W.InstAt s.heap a oe D (some od) := ⟨hget, hz.1, by unfold PySem.W.notCls; rw [hv] <;> rfl, by rw [hz.2]; exact ho⟩
      exact PySem.W.kia_one (PySem.W.dl_kitx C.hg C.hk C.hs C.hd C.ha C.hn C.ht C.hm) I.kIn J e (fun z => nomatch z) fun tk => ⟨.bl b, H, I.kept (t' := tk) fun _ _ z => z, rfl, q⟩
/-- the dict of an exception -/
def Res.xd (K : PySem.W.Frag) (dd : Addr) (f : Str) (d : PyData) : Res := ⟨fun B H => ∃ v, H dd = some (.xd [(f, v)]) ∧ Dp K B v d, fun z => z = dd, fun _ _ _ _ s k _ _ ⟨v, e, q⟩ => ⟨v, k _ _ rfl e, Dp.up s q⟩⟩
/-- the suite's action -/
abbrev sAct (Y : Cx) (a : Addr) (oe : Obj) (pn : List (Addr × Obj)) (W0 : Wd) : Act := ⟨Y.suite a ((a, oe) :: pn), ⟨fun _ _ => False, fun z => Nt W0.H z⟩, W0, fun _ _ _ => False, fun _ _ => False⟩
section
variable {Y : Cx} {a D dd : Addr} {oe : Obj} {pn : List (Addr × Obj)} {W0 : Wd} {ρ : List Sl} {f : Str} {d : PyData} {R : Sl → Prop} {pos : Pos} {e : Expr} {nx bk ct : List Sl → Res → Prop} {rt : Sl → Res → Prop}
theorem cd_isX {c : V} {cv : Value} {b : Bool} (C : ExcC Y.K D) (hz : Zc (.ref D) (some dd) oe) (hf : ∃ vs, oe.data = .fields vs) (hc : ∀ u, RelV c u → u = cv) (hk : PySem.W.kitOne Y.K (.ref D) cv = some b) (h : R (dB b)) :
    Cd (sAct Y a oe pn W0) (.builtin "isinstance") ρ (Res.xd Y.K dd f d) [.raw (.ref a), .raw c] R := .mk fun W σ vs Q E o k => by
  cases o with
  | cons o1 o2 =>
    cases o2 with
    | cons o2 on =>
      cases on
      obtain ⟨v, e1, _⟩ := E.res
      rw [o1.1, o2.1]
      exact c_at (call_isX C hz hf) ⟨c, cv, b, _, rfl, hc, e1, hk, k.now E h RtA.bl⟩
theorem we_xf (T : XfC Y.K D) (hno : PySem.W.findIn Y.K (.ref D) f = some none) (hz : Zc (.ref D) (some dd) oe) (hf : ∃ vs, oe.data = .fields vs) (h : We (sAct Y a oe pn W0) e ρ (Res.xd Y.K dd f d) fun r => r = .raw (.ref a) ∧ R (.dat d))
    (hb : attributeBase e f Y.env (eval e Y.env) = eval e Y.env := by rfl) : We (sAct Y a oe pn W0) (.Attribute e f pos) ρ (Res.xd Y.K dd f d) R := .mk fun W σ Q E X k => by
  refine e_at (pe_xf (X := Y) (n := f) T hno hz hf pe_sem hb) ?_
  show tE (Y.suite a ((a, oe) :: pn)) e σ W.H fun x H1 => x = .ref a ∧ (Value.ref D) = .ref D ∧ ∃ (dd' : Addr) (fs : List (Str × V)) (v : V), some dd = some dd' ∧ H1 dd' = some (.xd fs) ∧ fs.lookup f = some v ∧ Q v H1
  refine h W σ _ E X fun r v W1 h1 s1 o1 => ?_
  obtain ⟨rfl, hr⟩ := h1
  obtain ⟨u, e1, q⟩ := (E.up s1).res
  exact ⟨o1.1, rfl, dd, _, u, rfl, e1, by simp [List.lookup], (k.from s1).now (E.up s1) hr (RtA.dat q)⟩
/-- if isinstance(e, x): words.append(('x', e.g)) -/
theorem ws_tell {r0 : Sl} {ds : List PyData} {x z g : Str} {Cx : Addr} {b : Bool} {p1 p2 p3 p4 p5 p6 p7 p8 p9 p10 p11 p12 p13 : Pos} {j j2} (hN : Y.N = (["call", "e", "words"] : List Str)) (C : ExcC Y.K D) (hz : Zc (.ref D) (some dd) oe) (hf : ∃ vs, oe.data = .fields vs) (him : Y.mg "isinstance" = none)
    (hx : Y.mg x = some (.ref Cx)) (hk : PySem.W.kitOne Y.K (.ref D) (.ref Cx) = some b) (hb : b = true → g = f ∧ XfC Y.K D ∧ PySem.W.findIn Y.K (.ref D) f = some none ∧ ds.length < 1000)
    (h : nx [r0, .raw (.ref a), .own (if b = true then ds ++ [.tuple [.str z, d]] else ds)] (Res.xd Y.K dd f d))
    (hg1 : Gl Y "isinstance" := by rfl) (hg2 : Gl Y x := by rfl) (hdb : (x == ("__debug__" : Str)) = false := by decide) (hv1 : Vis Y.env.scope "e" := by exact Or.inl rfl) (hv2 : Vis Y.env.scope "words" := by exact Or.inl rfl) (hl : (p6.endLine == p11.line) = true := by rfl) :
    Ws (sAct Y a oe pn W0) (.If (.Call (.Name "isinstance" p1) [.Name "e" p2, .Name x p3] [] p4) [.Expr (.Call (.Attribute (.Name "words" p5) "append" p6) [.Tuple [.Constant (.str z) j p7, .Attribute (.Name "e" p8) g p9] j2 p10] [] p11) p12] [] p13)
      [r0, .raw (.ref a), .own ds] (Res.xd Y.K dd f d) nx rt bk ct := by
  have hN1 : (sAct Y a oe pn W0).X.N[1]? = some ("e" : Str) := by show Y.N[1]? = some ("e" : Str); rw [hN]; rfl
  have hN2 : (sAct Y a oe pn W0).X.N[2]? = some ("words" : Str) := by show Y.N[2]? = some ("words" : Str); rw [hN]; rfl
  refine ws_if (wt_val ?_)
  refine we_callB (e := .Name "e" p2) (es := [.Name x p3]) him boot_isinstance ?_ hg1
  refine wa_cons (we_var 1 ?_ rfl (fun z => nomatch z) rfl hN1 hv1) rfl
  refine wa_cons (we_own hx ?_ hg2 hdb) rfl
  refine wa_nil ?_
  refine cd_isX (c := .ref Cx) C hz hf (fun u r => r) hk ?_
  refine ⟨b, rfl, ?_⟩
  cases b with
  | false =>
    rw [if_neg Bool.false_ne_true] at h ⊢
    exact wss_nil h
  | true =>
    rw [if_pos rfl] at h ⊢
    obtain ⟨rfl, T, hno, hlen⟩ := hb rfl
    refine wss_one (ws_append 2 ?_ rfl hN2 hv2 (by decide) (by decide) rfl rfl (fun to t ho ha => pe_bm PySem.F.plainAttrs_list PySem.F.slot_list_append PySem.F.type_list_append mt_append ho ha rfl rfl hl))
    refine we_tup ?_
    refine wa_cons (we_str ?_) rfl
    refine wa_cons (we_xf T hno hz hf (we_var 1 ?_ rfl (fun z => nomatch z) rfl hN1 hv1) rfl) rfl
    refine ⟨rfl, wa_nil ?_⟩
    exact ⟨[.str z, d], rfl, (by show (2:Nat) ≤ 100000; decide), _, rfl, by omega, h⟩

/-- the tests of the suite, one for each class -/
inductive Tells : List (Str × Str) → List Stmt → List Stmt → Prop
  | nil {rest : List Stmt} : Tells [] rest rest
  | cons {x g : Str} {l : List (Str × Str)} {sts rest : List Stmt} {p1 p2 p3 p4 p5 p6 p7 p8 p9 p10 p11 p12 p13 : Pos} {j j2} : (p6.endLine == p11.line) = true → Tells l sts rest →
      Tells ((x, g) :: l) (.If (.Call (.Name "isinstance" p1) [.Name "e" p2, .Name x p3] [] p4) [.Expr (.Call (.Attribute (.Name "words" p5) "append" p6) [.Tuple [.Constant (.str x) j p7, .Attribute (.Name "e" p8) g p9] j2 p10] [] p11) p12] [] p13 :: sts) rest
/-- what is known of the classes -/
structure TabOk (K : PySem.W.Frag) (mg : Str → Option Value) (ca : Str → Addr) (tab : List (Str × Str)) : Prop where
  gl : ∀ t ∈ tab, mg t.1 = some (.ref (ca t.1)) ∧ (t.1 == ("__debug__" : Str)) = false
  ex : ∀ t ∈ tab, ExcC K (ca t.1) ∧ XfC K (ca t.1) ∧ PySem.W.findIn K (.ref (ca t.1)) t.2 = some none ∧ PySem.W.kitOne K (.ref (ca t.1)) (.type "ValueError") = some true
  kit : ∀ t ∈ tab, ∀ u ∈ tab, PySem.W.kitOne K (.ref (ca t.1)) (.ref (ca u.1)) = some (u.1 == t.1)
  fld : ∀ t ∈ tab, (tab.filter fun u => u.1 == t.1) = [t]
def hitD (tab : List (Str × Str)) (nm : Str) (d : PyData) : List PyData := (tab.filter fun u => u.1 == nm).map fun u => .tuple [.str u.1, d]
theorem wss_tells {r0 : Sl} {nm : Str} {ca : Str → Addr} {tab : List (Str × Str)} (T : TabOk Y.K Y.mg ca tab) (ht : (nm, f) ∈ tab) (hN : Y.N = (["call", "e", "words"] : List Str)) (hz : Zc (.ref (ca nm)) (some dd) oe) (hf : ∃ vs, oe.data = .fields vs) (him : Y.mg "isinstance" = none)
    (hg1 : Gl Y "isinstance") (hv1 : Vis Y.env.scope "e") (hv2 : Vis Y.env.scope "words") :
    ∀ {l : List (Str × Str)} {sts rest : List Stmt} {ds : List PyData}, Tells l sts rest → (∀ t ∈ l, t ∈ tab ∧ Gl Y t.1) → ds.length + l.length < 1000 → Wss (sAct Y a oe pn W0) rest [r0, .raw (.ref a), .own (ds ++ hitD l nm d)] (Res.xd Y.K dd f d) nx rt bk ct → Wss (sAct Y a oe pn W0) sts [r0, .raw (.ref a), .own ds] (Res.xd Y.K dd f d) nx rt bk ct := by
  intro l sts rest ds hT
  induction hT generalizing ds with
  | nil =>
    intro _ _ h
    rw [show hitD [] nm d = [] from rfl, List.append_nil] at h
    exact h
  | @cons x g l sts rest p1 p2 p3 p4 p5 p6 p7 p8 p9 p10 p11 p12 p13 j j2 hl hT ih =>
    intro hall hlen h
    have h0 := hall (x, g) List.mem_cons_self
    have hm := T.gl _ h0.1
    have he := T.ex _ ht
    have hlen' : ds.length + (l.length + 1) < 1000 := hlen
    refine wss_cons (ws_tell (b := x == nm) hN he.1 hz hf him hm.1 (T.kit _ ht _ h0.1) (fun hb => ⟨?_, he.2.1, he.2.2.1, by omega⟩) ?_ hg1 h0.2 hm.2 hv1 hv2 hl)
    · have e := T.fld _ ht
      have m1 : (x, g) ∈ tab.filter fun u => u.1 == nm := List.mem_filter.mpr ⟨h0.1, hb⟩
      rw [e] at m1
      have m2 := List.mem_singleton.mp m1
      exact congrArg Prod.snd m2
    · refine ih (fun t ht => hall t (List.mem_cons_of_mem _ ht)) ?_ ?_
      · cases x == nm
        · rw [if_neg Bool.false_ne_true]; omega
        · rw [if_pos rfl, List.length_append]
          show ds.length + 1 + l.length < 1000
          omega
      · cases q : x == nm with
        | false =>
          rw [if_neg Bool.false_ne_true]
          have e : hitD ((x, g) :: l) nm d = hitD l nm d := by unfold hitD; rw [List.filter_cons_of_neg (by simp [q])]
          rw [e] at h; exact h
        | true =>
          rw [if_pos rfl]
          have e : hitD ((x, g) :: l) nm d = .tuple [.str x, d] :: hitD l nm d := by unfold hitD; rw [List.filter_cons_of_pos (by simp [q])]; rfl
          rw [e] at h
          rw [List.append_assoc]
          exact h
end
/-- what the call of _law_told makes of the lambda's reading -/
def TTold (K : PySem.W.Frag) (tab : List (Str × Str)) (ca : Str → Addr) : (XK → Hp → VK → Prop) → Hp → VK → Prop := fun tl H Q =>
  tl (fun cls d H' => ∃ (nm f : Str) (v : V) (dd : Addr) (W' : Wd) (dt : PyData), (nm, f) ∈ tab ∧ cls = .ref (ca nm) ∧ d = some dd ∧ W'.H = H' ∧ Same W'.B W'.H ∧ W'.B dd = none ∧ (∀ a ps, W'.B a ≠ some (.tbl ps)) ∧ H' dd = some (.xd [(f, v)]) ∧ Dp K W'.B v dt ∧
    ∀ (W2 : Wd) (r : V), Stp0 W' W2 → Dp K W2.B r (.tuple [.str "refused", .list [.tuple [.str nm, dt]]]) → Q r W2.H) H (fun v H1 => ([V.str "told", v] : List V).length ≤ sizeLine ∧ ∀ p, H1 p = none → Q (.ref p) (upd H1 p (.tup [.str "told", v])))
section
variable {X : Cx}
theorem told_ok {tab : List (Str × Str)} {ca : Str → Addr} {UE g : Addr} {sg : Scope} {cdg : Value} {q x : Str} {suite sts rest : List Stmt} {p1 p2 p3 p4 p5 p6 p7 p8 p9 p10 pa pb pc pd pe pf pg ph pi pj pk pl pm pn' po pp pq pr : Pos} {j j2 j3 j4 j5 jz} (T : TabOk X.K X.mg ca tab) (hUE : X.mg "UnsureError" = some (.ref UE)) (hex : ∀ t ∈ tab, PySem.W.exmOne X.K (.ref (ca t.1)) (.ref UE) = some true)
    (him : X.mg "isinstance" = none) (hve : X.mg "ValueError" = none) (hT : Tells tab sts rest) (hlen : tab.length < 900) (hsg : ∀ t ∈ tab, sg.names.lookup t.1 = some .globalImplicit)
    (hs1 : sg.names.lookup ("isinstance" : Str) = some .globalImplicit) (hs2 : sg.names.lookup ("ValueError" : Str) = some .globalImplicit) (hs3 : sg.names.lookup ("UnsureError" : Str) = some .globalImplicit) (hs4 : sg.names.lookup ("e" : Str) = some .local) (hs5 : sg.names.lookup ("words" : Str) = some .local) (hs6 : sg.names.lookup ("call" : Str) = some .local)
    (hline : (pk.endLine == pp.line) = true)
    (hrest : rest = [.If (.UnaryOp .Not (.Call (.Name "isinstance" p7) [.Name "e" p8, .Name "ValueError" p9] [] p10) pa) [.Expr (.Call (.Attribute (.Name "words" pj) "append" pk) [.Tuple [.Constant (.str "no ValueError") jz pl, .Constant (.int 0) j5 pm] j4 pn'] [] pp) pq] [] pb, .Return (some (.Tuple [.Constant (.str "refused") j pc, .Name "words" pd] j2 pe)) pf]) (hsk : sg.kind = .function) :
    LamX.GivesTo X ["call", "e", "words"] x sg g cdg [.Try [.Return (some (.Tuple [.Constant (.str "told") j3 pg, .Call (.Name "call" p1) [] [] p2] j2 ph)) p3] [.ExceptHandler (some (.Name "UnsureError" p4)) (some "e") (.Assign [.Name "words" p5] (.List [] pi) p6 :: sts) pr] [] [] po] "call" q (TTold X.K tab ca) := by
  intro f c' s H Q tl act hc h
  generalize hZ : (cxOf C8.CX0 X.prog X.w X.K X.mg X.base (["call", "e", "words"] : List Str) x sg g cdg X.A X.stack s H C8.E0) = Z at act ⊢
  have hZN : Z.N = (["call", "e", "words"] : List Str) := by subst hZ; rfl
  have hZs : Z.env.scope = sg := by subst hZ; rfl
  have hZmg : Z.mg = X.mg := by subst hZ; rfl
  have hZK : Z.K = X.K := by subst hZ; rfl
  have hgl : ∀ y, sg.names.lookup y = some .globalImplicit → Gl Z y := fun y hy => by subst hZ; exact hy
  have nd : (["call", "e", "words"] : List Str).Nodup := by decide
  have T' : TabOk Z.K Z.mg ca tab := by rw [hZK, hZmg]; exact T
  refine ⟨_, pss_one (ps_try_as (X := Z.nox) (c := .ref UE) (i := 1) (n := "e") (Wout := fun _ _ _ _ => False)
      (tb := fun W D σ H => ∃ Ech : XK, (∀ cls d σ' H', Ech cls d H' → W cls d σ' H') ∧ σ[0]? = some (some (.ref f)) ∧ H c' = some (LamX.CodeO c' q) ∧ tl Ech H (fun v H1 => ([V.str "told", v] : List V).length ≤ sizeLine ∧ ∀ p, H1 p = none → D.rt (.ref p) (upd H1 p (.tup [.str "told", v]))))
      (ts := fun a cls d D σ H => ∀ (oe : Obj) (pn : List (Addr × Obj)), Zc cls d oe → (∃ vs, oe.data = .fields vs) → σ.length = 3 → tSs (Z.nox.suite a ((a, oe) :: pn)) (.Assign [.Name "words" p5] (.List [] pi) p6 :: sts) D σ H)
      (by subst hZ; rfl) (by subst hZ; rfl) (by show Z.N.Nodup; rw [hZN]; exact nd) (by show Z.N[1]? = some ("e" : Str); rw [hZN]; rfl) (by show Z.env.scope.names.lookup ("e" : Str) = _; rw [hZs]; exact hs4) ⟨hgl _ hs3, by decide, .inl (by show Z.mg _ = _; rw [hZmg]; exact hUE)⟩ LamX.takes0 (fun W pn xe tk _ => ?_) (fun a oe cls d pn hz hd => ?_)), ?_⟩
  · refine ⟨fun pins s' σ H' D I h' => ?_⟩
    obtain ⟨Ech, hW, h1, h2, h3⟩ := h'
    have hp := act W pn xe Ech p1 p2 tk hW
    have hq : PSs (Z.tr pn xe) [.Return (some (.Tuple [.Constant (.str "told") j3 pg, .Call (.Name "call" p1) [] [] p2] j2 ph)) p3] _ := pss_one (ps_ret (pe_tup (pa_cons pe_str (pa_cons hp pa_nil))))
    exact hq.run pins s' σ H' D I ⟨h1, h2, h3⟩
  · refine ⟨fun pins s' σ H' D I h' => ?_⟩
    have hlen3 : σ.length = 3 := by
      have e := I.len
      have e : Z.N.length = σ.length ∨ σ.length = Z.N.length := by first | exact .inl e | exact .inr e
      rw [hZN] at e
      rcases e with e | e
      · exact e.symm
      · exact e
    exact h' oe pn hz hd hlen3 pins s' I
  · refine ⟨fun cls d H' => ∃ (nm f : Str) (v : V) (dd : Addr) (W' : Wd) (dt : PyData), (nm, f) ∈ tab ∧ cls = .ref (ca nm) ∧ d = some dd ∧ W'.H = H' ∧ Same W'.B W'.H ∧ W'.B dd = none ∧ (∀ a ps, W'.B a ≠ some (.tbl ps)) ∧ H' dd = some (.xd [(f, v)]) ∧ Dp X.K W'.B v dt ∧
      ∀ (W2 : Wd) (r : V), Stp0 W' W2 → Dp X.K W2.B r (.tuple [.str "refused", .list [.tuple [.str nm, dt]]]) → Q r W2.H, fun cls d σ' H' hh => ?_, rfl, hc, ?_⟩
    · obtain ⟨nm, fl, v, dd, W', dt, hmem, rfl, rfl, rfl, ok, hB, hnt, hdd, hv, fin⟩ := hh
      refine ⟨true, by rw [show Z.nox.K = X.K from hZK]; exact hex _ hmem, fun _ a na => ?_, fun z => nomatch z⟩
      intro oe pn hz hf hl3
      rw [List.length_set] at hl3
      have key : Wss (sAct Z.nox a oe pn W') (.Assign [.Name "words" p5] (.List [] pi) p6 :: sts) [.un, .raw (.ref a), .un] (Res.xd Z.K dd fl dt) (fun _ _ => False) (fun r _ => r = dT [.str "refused", .list [.tuple [.str nm, dt]]]) (fun _ _ => False) (fun _ _ => False) := by
        have hN' : (sAct Z.nox a oe pn W').X.N = (["call", "e", "words"] : List Str) := hZN
        have hN2 : (sAct Z.nox a oe pn W').X.N[2]? = some ("words" : Str) := by rw [hN']; rfl
        have hN1 : (sAct Z.nox a oe pn W').X.N[1]? = some ("e" : Str) := by rw [hN']; rfl
        have hv5 : Vis Z.env.scope "words" := by rw [hZs]; exact .inl hs5
        have hv4 : Vis Z.env.scope "e" := by rw [hZs]; exact .inl hs4
        have hl5 : Loc Z.env.scope "words" := by rw [hZs]; exact .inl hs5
        refine wss_cons (ws_set 2 (we_lst (wa_nil ?_)) (by rw [hN']; exact nd) hN2 hl5 (by rfl) (.inr (by show Z.env.scope.names.lookup ("words" : Str) = _; rw [hZs]; exact hs5)))
        refine ⟨[], rfl, by decide, rfl, ?_⟩
        refine wss_tells T' hmem hZN hz hf (by show Z.mg _ = _; rw [hZmg]; exact him) (hgl _ hs1) hv4 hv5 hT (fun t ht => ⟨ht, hgl _ (hsg t ht)⟩) (by simpa using (by omega : tab.length < 1000)) ?_
        rw [show ([] ++ hitD tab nm dt : List PyData) = [.tuple [.str nm, dt]] from by unfold hitD; rw [T.fld _ hmem]; rfl]
        subst hrest
        refine wss_cons (ws_if (wt_not (wt_val ?_)))
        refine we_callB (e := .Name "e" p8) (es := [.Name "ValueError" p9]) (by show Z.mg _ = _; rw [hZmg]; exact him) boot_isinstance ?_ (hgl _ hs1)
        refine wa_cons (we_var 1 ?_ rfl (fun z => nomatch z) rfl hN1 hv4) rfl
        refine wa_cons (we_ty (by show Z.mg _ = _; rw [hZmg]; exact hve) boot_VE ?_ (hgl _ hs2)) rfl
        refine wa_nil ?_
        have he := T'.ex _ hmem
        refine cd_isX (c := .ty "ValueError") he.1 hz hf (fun u r => r) he.2.2.2 ?_
        refine ⟨true, rfl, ?_⟩
        refine wss_nil ?_
        refine wss_frz 2 (wss_one (ws_ret (we_tup ?_)))
        refine wa_cons (we_str ?_) rfl
        refine wa_cons (we_var 2 ?_ rfl (fun z => nomatch z) rfl hN2 hv5) rfl
        refine wa_nil ?_
        exact ⟨[.str "refused", .list [.tuple [.str nm, dt]]], rfl, (by show (2:Nat) ≤ 100000; decide), rfl⟩
      refine key W' (σ'.set 1 (some (.ref a))) _ ?_ (fun _ _ _ _ _ z => z.elim) ⟨fun _ _ _ _ z => z.elim, fun r J W2 v2 hr S o => ?_, fun _ _ _ _ z => z.elim, fun _ _ _ _ z => z.elim⟩
      · refine ⟨ok, Stp.refl ok, by rw [List.length_set]; exact hl3, fun i r hr => ?_, fun i j p r q' hr _ ho => ?_, ⟨v, hdd, by rw [show Z.K = X.K from hZK]; exact hv⟩, fun z hz' => ?_, fun i p r hr ho => ?_, fun i ds hr => ?_, hnt⟩
        · match i, hr with
          | 0, hr => cases Option.some.inj hr; exact True.intro
          | 1, hr =>
            cases Option.some.inj hr
            exact ⟨.ref a, at_set_self (by omega), rfl⟩
          | 2, hr => cases Option.some.inj hr; exact True.intro
          | n + 3, hr => simp at hr
        · match i, hr with
          | 0, hr => cases Option.some.inj hr; cases ho
          | 1, hr => cases Option.some.inj hr; cases ho
          | 2, hr => cases Option.some.inj hr; cases ho
          | n + 3, hr => simp at hr
        · have hz' : z = dd := hz'
          subst hz'
          have n1 : Nt W'.H z := ⟨_, hdd, fun ps z => by cases z⟩
          exact ⟨hB, n1, .inl n1⟩
        · match i, hr with
          | 0, hr => cases Option.some.inj hr; cases ho
          | 1, hr => cases Option.some.inj hr; cases ho
          | 2, hr => cases Option.some.inj hr; cases ho
          | n + 3, hr => simp at hr
        · match i, hr with
          | 0, hr => cases Option.some.inj hr
          | 1, hr => cases Option.some.inj hr
          | 2, hr => cases Option.some.inj hr
          | n + 3, hr => simp at hr
      · subst hr
        refine fin W2 v2 (S.st.weak fun _ _ z => z.elim) ?_
        have o : Dp Z.K W2.B v2 _ := o
        rw [hZK] at o
        exact o
    · exact h
end
end DL

namespace DL
open PySem PySem.Spec PyProof.Rows L2
/-! ### _law_told(lambda: body) -/
/-- what is known of _law_told and of the maker's code table -/
structure ToldK (P : Program) (w : World) (K : PySem.W.Frag) (mg : Str → Option Value) (base : Heap) (tab : List (Str × Str)) (ca : Str → Addr) : Prop where
  ex : ∃ (g : Addr) (pg : Arguments) (bg : List Stmt) (sg : Scope) (dV kV doc pm cdv ct oc : Value) (an od : Option Addr) (osl : Array (Option Value)), mg "_law_told" = some (.ref g) ∧ PySem.W.keepIn K (.ref g) = true ∧
    K.lookup g = some ⟨oc, od, .func (PySem.W.fnOf "_law_told" "_law_told" pg bg sg dV kV doc pm an cdv ct), osl⟩ ∧ PySem.W.codeIn K cdv "_law_told" = true ∧ L2.Binds K (PySem.W.fnOf "_law_told" "_law_told" pg bg sg dV kV doc pm an cdv ct) ["call"] [] ∧ FnScope ["call", "e", "words"] ["call"] sg ∧ Vis sg "call" ∧
    ∀ (X : Cx) (q : Str), X.prog = P → X.w = w → X.K = K → X.mg = mg → X.base = base → LamX.GivesTo X ["call", "e", "words"] "_law_told" sg g cdv bg "call" q (TTold K tab ca)
/-- the lambda's action -/
abbrev lAct (A : Act) (mc : Addr → HO → Prop) (z : Addr → Prop) (W1 : Wd) (px : Exn → Res → Prop) (R : Around) (outer : List PySem.Env) (s : Shared) (H : Hp) (E : XK) (scope : Scope) (f c' : Addr) : Act := ⟨LamX.lamCx A.X R outer s H E scope f c', ⟨mc, z⟩, W1, E, px⟩
theorem lTakes {A : Act} {mc : Addr → HO → Prop} {z : Addr → Prop} {W1 : Wd} {px : Exn → Res → Prop} {R : Around} {outer : List PySem.Env} {s : Shared} {H : Hp} {E : XK} {scope : Scope} {f c' : Addr} : Takes (lAct A mc z W1 px R outer s H E scope f c').X fun cls d _ H' => (lAct A mc z W1 px R outer s H E scope f c').E cls d H' := takes_of rfl rfl rfl rfl
/-- what a lambda sees -/
def noOwn : Sl → Sl
  | .own _ => .un
  | r => r
theorem Env.lam {K : PySem.W.Frag} {M : Md} {Jc F : Res} {W0 W : Wd} {σ : St} {ρ : List Sl} {mc : Addr → HO → Prop} (E : Env K M (Jc.star F) W0 W σ ρ) : Env K ⟨mc, Jc.fp⟩ Jc W W σ (ρ.map noOwn) := by
  have get : ∀ (i : Nat) (r : Sl), (ρ.map noOwn)[i]? = some r → ∃ q, ρ[i]? = some q ∧ r = noOwn q := fun i r h => by
    rw [List.getElem?_map] at h
    cases e : ρ[i]? with
    | none => rw [e] at h; cases h
    | some q => rw [e] at h; exact ⟨q, rfl, (Option.some.inj h).symm⟩
  have no : ∀ (i : Nat) (r : Sl), (ρ.map noOwn)[i]? = some r → isOwn r = false := fun i r h => by
    obtain ⟨q, _, rfl⟩ := get i r h
    cases q <;> rfl
  refine ⟨E.ok, Stp.refl E.ok, by rw [List.length_map]; exact E.len, fun i r h => ?_, fun i j p r q h _ ho _ _ _ => (by rw [no i r h] at ho; cases ho), E.res.1, fun a h => ⟨(E.sep a (.inl h)).1, (E.sep a (.inl h)).2.1, .inl h⟩, fun i p r h ho _ => (by rw [no i r h] at ho; cases ho), fun i ds h => ?_, E.st.t E.nt⟩
  · obtain ⟨q, hq, rfl⟩ := get i r h
    have z := E.sl i q hq
    cases q with
    | bor ds => exact absurd hq (E.nob i ds)
    | own ds => exact True.intro
    | un => exact True.intro
    | _ => exact z
  · obtain ⟨q, hq, e⟩ := get i _ h
    cases q with
    | bor ds' => exact E.nob i ds' hq
    | _ => cases e
section
variable {A : Act} {ρ : List Sl} {J Jd F : Res} {R : Sl → Res → Prop} {pos p lpos : Pos} {params : Arguments} {body : Expr} {scope : Scope}
theorem wj_told {T : List (Addr × Str)} {tab : List (Str × Str)} {ca : Str → Addr} {c P : Addr} {k j : Nat} (mc : Addr → HO → Prop) (D : ToldK A.X.prog A.X.w A.X.K A.X.mg A.X.base tab ca) (TB : LamX.TabB A.X.base A.X.mg c P) (hcode : A.X.env.code = .ref c) (hmT : (P, A.X.env.qual ++ "<lambda>") ∈ T) (hu : ∀ p ∈ T, p.1 = P → p.2 = A.X.env.qual ++ "<lambda>")
    (hr : Room j A.X.A) (hk : k + 2 ≤ j) (cv : Cv J (((Res.tabs T).star Jd).star F)) (nt : F.Fr) (nd : Jd.Fr) (hT : ∀ z ps, A.M.m z (.tbl ps)) (hM : ∀ z o, mc z o → Jd.fp z ∧ (A.M.z z → A.M.m z o))
    (h : ∀ (W1 : Wd) (Ro : Around) (outer : List PySem.Env) (s : Shared) (H : Hp) (E : XK) (f c' : Addr), Room k (Ro.deeper (LamX.lamEnv A.X scope s.heap.objs.size f c')) →
      Wj (lAct A mc ((Res.tabs T).star Jd).fp W1 (fun e J' => ∃ nm, (nm, e.f) ∈ tab ∧ e.C = ca nm ∧ R (dT [.str "refused", .list [.tuple [.str nm, e.d]]]) (J'.star F)) Ro outer s H E scope f c') body (ρ.map noOwn) ((Res.tabs T).star Jd) fun r J' => ∃ d, frz r = .dat d ∧ R (dT [.str "told", d]) (J'.star F))
    (L : LamX.LamS A.X.env.scope scope := by exact LamX.lamS_by (by decide +kernel)) (hdef : defaultsOf params A.X.env = ([], []) := by rfl) (hbind : ∀ (q : Str) (cl : List (Str × Addr)) (pm cv ctv : Value), bindArgs (PySem.W.kla_fn "<lambda>" q params body scope cl pm cv ctv) ⟨[], []⟩ = pure [] := by intros; rfl) (hg : Gl A.X "_law_told" := by rfl) :
    Wj A (.Call (.Name "_law_told" p) [.Lambda params body scope lpos] [] pos) ρ J R := .mk fun W σ Q E X kk => by
  obtain ⟨g, pg, bg, sg, dV, kV, doc, pm, cdv, ct, oc, an, od, osl, hm, hkp, lk, hcg, hb, Sg, hva, hG⟩ := D.ex
  refine e_at (LamX.pe_lamcall (k := k) (t := fun E σ H Q => ∀ (Ro : Around) (outer : List PySem.Env) (s : Shared) (H0 : Hp) (f c' : Addr), Room k (Ro.deeper (LamX.lamEnv A.X scope s.heap.objs.size f c')) → tE (LamX.lamCx A.X Ro outer s H0 E scope f c') body σ H Q) hg hm hkp lk hcg hb Sg rfl hva (hG A.X _ rfl rfl rfl rfl rfl) TB hcode hmT hu (hr.mono hk) L hdef hbind
    (fun Ro outer s H E f c' hr => ⟨fun pins s' σ H' Q I h => h Ro outer s H f c' hr pins s' I⟩)) ?_
  have E1 := E.conv cv
  refine ⟨E1.res.1.1, fun H1 eN T1 => ?_⟩
  -- the world behind the lambda's making
  have Bk : ∀ a o, W.B a = some o → H1 a = some o := fun a o e => eN a o (E.ok a o e) fun ps z => (E.st.t E.nt) a ps (by rw [e, z])
  have kp : ∀ a o, W.H a = some o → (∀ ps, o ≠ .tbl ps) → H1 a = some o := eN
  have E2 : Env A.X.K A.M (((Res.tabs T).star Jd).star F) A.W0 ⟨W.B, H1⟩ σ ρ := by
    refine E1.call (mc := fun z o => ∃ ps, o = .tbl ps) (W' := ⟨W.B, H1⟩) (J' := (Res.tabs T).star Jd) nt (fun z o h => .inl ⟨h, by obtain ⟨ps, rfl⟩ := h; exact hT z ps⟩) ⟨Bk, ⟨Same.refl _, Bk, fun a o e m => kp a o e fun ps z => m ⟨ps, z⟩, fun a e => .inl e, fun a e => ?_, fun a q e => kp a _ e LamX.codeO_ne, id⟩, ⟨T1, nd _ _ _ _ (Same.refl _) (fun a o fa e => kp a o e fun ps z => ?_) E1.res.1.2.1, E1.res.1.2.2⟩, fun a ha => ?_⟩
    · obtain ⟨o, e1, e2⟩ := e
      exact ⟨o, kp a o e1 e2, e2⟩
    · obtain ⟨u, eu, nu⟩ := (E1.sep a (.inl (.inr fa))).2.1
      rw [e] at eu
      exact nu ps ((Option.some.inj eu).symm.trans z)
    · have sp := E1.sep a (.inl ha)
      obtain ⟨u, eu, nu⟩ := sp.2.1
      exact ⟨sp.1, ⟨u, kp a u eu nu, nu⟩, .inl ha⟩
  have hMc : ∀ z o, mc z o → ((∃ ps, o = .tbl ps) ∧ A.M.m z o) ∨ (((Res.tabs T).star Jd).fp z ∧ (A.M.z z → A.M.m z o)) := fun z o q => .inr ⟨.inr (hM z o q).1, (hM z o q).2⟩
  show TTold A.X.K tab ca _ H1 Q
  intro Ro outer s H0 f c' hroom
  refine h ⟨W.B, H1⟩ Ro outer s H0 _ f c' hroom ⟨W.B, H1⟩ σ _ E2.lam ?_ ?_
  · -- refused
    rintro ⟨C, fl, dt⟩ J' v dd W' ⟨nm, hmem, rfl, hR⟩ S hdd hB hv
    have E3 := E2.call nt hMc S
    refine ⟨nm, fl, v, dd, W', dt, hmem, rfl, rfl, rfl, S.ok, hB, E3.st.t E3.nt, hdd, hv, fun W2 r s2 hr2 => ?_⟩
    exact kk _ _ r W2 hR (S.st.b.trans s2.b) (E3.up s2) (RtA.dat hr2)
  · intro r J' v W1 hr1 sb E3 o3
    obtain ⟨d, hd, hR⟩ := hr1
    obtain ⟨W2, e2, S, o2⟩ := frz_rt E3 o3
    rw [hd] at o2
    have E4 := E2.call nt hMc S
    refine ⟨by show (2 : Nat) ≤ sizeLine; decide, fun q hq => ?_⟩
    rw [← e2] at hq ⊢
    have o2 : Dp A.X.K W2.B v d := o2
    have sn := Stp.new (o := .tup [.str "told", v]) E4.ok hq
    exact kk _ _ (.ref q) ⟨upd W2.B q (.tup [.str "told", v]), upd W2.H q (.tup [.str "told", v])⟩ hR (S.st.b.trans sn.b) (E4.up sn) (RtA.dat (.tup (SqT.of upd_same) (.cons (.str _) (.cons (Dp.up sn.b o2) .nil))))
end
end DL

namespace DL
open PySem PySem.Spec PyProof.Rows L2
/-! ### lists that are lent -/
def joinH (L B : Hp) : Hp := fun a => match L a with
  | some o => some o
  | none => B a
def cutH (L B : Hp) : Hp := fun a => match L a with
  | some _ => none
  | none => B a
def Lists (L : Hp) : Prop := ∀ a o, L a = some o → ∃ vs, o = .lst vs
section
variable {L B B' H : Hp} {a : Addr}
theorem join_in {o : HO} (h : L a = some o) : joinH L B a = some o := by unfold joinH; rw [h]
theorem join_out (h : L a = none) : joinH L B a = B a := by unfold joinH; rw [h]
theorem cut_in {o : HO} (h : L a = some o) : cutH L B a = none := by unfold cutH; rw [h]
theorem cut_out (h : L a = none) : cutH L B a = B a := by unfold cutH; rw [h]
theorem join_same (s : Same B B') : Same (joinH L B) (joinH L B') := fun a o e => by
  cases q : L a with
  | some u => rw [join_in q] at e ⊢; exact e
  | none => rw [join_out q] at e ⊢; exact s a o e
theorem join_sub (h1 : Same L H) (h2 : Same B H) : Same (joinH L B) H := fun a o e => by
  cases q : L a with
  | some u => rw [join_in q] at e; exact h1 a o (q.trans e)
  | none => rw [join_out q] at e; exact h2 a o e
theorem sub_join (h : ∀ a, L a ≠ none → B a = none) : Same B (joinH L B) := fun a o e => by
  cases q : L a with
  | some u => rw [h a (by rw [q]; exact Option.some_ne_none _)] at e; cases e
  | none => rw [join_out q]; exact e
theorem cut_sub : Same (cutH L B) B := fun a o e => by
  cases q : L a with
  | some u => rw [cut_in q] at e; cases e
  | none => rw [cut_out q] at e; exact e
end
/-! data without lists -/
mutual
def noL : PyData → Bool
  | .list _ => false
  | .dict _ => false
  | .tuple ds => noLs ds
  | _ => true
def noLs : List PyData → Bool
  | [] => true
  | d :: r => noL d && noLs r
end
section
variable {K : PySem.W.Frag} {L B : Hp}
theorem seqT_thin (hL : Lists L) (s : Same L B) {a : Addr} {xs : List V} (h : SqT K B a xs) : SqT K (cutH L B) a xs := by
  have key : ∀ o, B a = some o → (∀ vs, o ≠ .lst vs) → cutH L B a = some o := fun o e n => by
    cases q : L a with
    | some u =>
      obtain ⟨vs, rfl⟩ := hL a u q
      rw [s a _ q] at e
      exact absurd (Option.some.inj e).symm (n vs)
    | none => rw [cut_out q]; exact e
  rcases h with (h | ⟨o, h⟩) | h
  · exact .inl (.inl (key _ h fun vs z => by cases z))
  · exact .inl (.inr ⟨o, key _ h fun vs z => by cases z⟩)
  · exact .inr h
mutual
theorem dp_thin (hL : Lists L) (s : Same L B) : ∀ {d : PyData} {v : V}, noL d = true → Dp K B v d → Dp K (cutH L B) v d
  | .none, _, _, h => by cases h; exact .non
  | .bool b, _, _, h => by cases h; exact .bl b
  | .int b, _, _, h => by cases h; exact .int b
  | .str b, _, _, h => by cases h; exact .str b
  | .list ds, _, n, h => absurd n Bool.false_ne_true
  | .tuple ds, _, n, h => by
    cases h with
    | tup hs ha => exact .tup (seqT_thin hL s hs) (dpAll_thin hL s n ha)
  | .dict _, _, n, h => absurd n Bool.false_ne_true
theorem dpAll_thin (hL : Lists L) (s : Same L B) : ∀ {ds : List PyData} {vs : List V}, noLs ds = true → DpAll K B vs ds → DpAll K (cutH L B) vs ds
  | [], _, _, h => by cases h; exact .nil
  | d :: ds, _, n, h => by
    obtain ⟨n1, n2⟩ := Bool.and_eq_true_iff.mp (show (noL d && noLs ds) = true from n)
    cases h with
    | cons h1 h2 => exact .cons (dp_thin hL s n1 h1) (dpAll_thin hL s n2 h2)
end
theorem noLs_iff : ∀ {ds : List PyData}, noLs ds = true ↔ ∀ d ∈ ds, noL d = true
  | [] => by simp [noLs]
  | d :: r => by
    unfold noLs
    rw [Bool.and_eq_true, noLs_iff (ds := r)]
    simp
end
/-- what does not lean on lists -/
def Res.Thin (J : Res) : Prop := ∀ (L B H : Hp), Lists L → Same L B → J.P B H → J.P (cutH L B) H
def FThin : Sl → Prop
  | .dat d => noL d = true
  | .fct F => ∀ (K : PySem.W.Frag) (L B : Hp) (v : V), Lists L → Same L B → F.P K B v → F.P K (cutH L B) v
  | _ => True
theorem fok_thin {K : PySem.W.Frag} {L B : Hp} (hL : Lists L) (s : Same L B) {v : V} {r : Sl} (t : FThin r) (h : FOk K B v r) : FOk K (cutH L B) v r := by
  cases r with
  | dat d => exact dp_thin hL s t h
  | fct F => exact t K L B v hL s h
  | raw u => exact h
  | _ => exact h.elim
theorem fsok_thin {K : PySem.W.Frag} {L B : Hp} (hL : Lists L) (s : Same L B) {vs : List (Str × V)} {rs : List (Str × Sl)} (t : ∀ x ∈ rs, FThin x.2) (h : FsOk K B vs rs) : FsOk K (cutH L B) vs rs := by
  induction h with
  | nil => exact .nil
  | cons a b ih => exact .cons (fok_thin hL s (t _ List.mem_cons_self) a) (ih fun x hx => t x (List.mem_cons_of_mem _ hx))
theorem thin_insF {C : Addr} {rs : List (Str × Sl)} (t : ∀ x ∈ rs, FThin x.2) : FThin (.fct (insF C rs)) := fun K L B v hL s ⟨a, dx, vs, e1, e2, e3⟩ => by
  refine ⟨a, dx, vs, e1, ?_, fsok_thin hL s t e3⟩
  cases q : L a with
  | some u =>
    obtain ⟨us, rfl⟩ := hL a u q
    rw [s a _ q] at e2
    cases e2
  | none => rw [cut_out q]; exact e2
theorem thin_ins {K : PySem.W.Frag} {a C : Addr} {rs : List (Str × Sl)} (t : ∀ x ∈ rs, FThin x.2) : (Res.ins K a C rs).Thin := fun L B H hL s ⟨dx, vs, e, f⟩ => ⟨dx, vs, e, fsok_thin hL s t f⟩
theorem thin_lst {K : PySem.W.Frag} {p : Addr} {ds : List PyData} (t : noLs ds = true) : (Res.lst K p ds).Thin := fun L B H hL s ⟨vs, e, f⟩ => ⟨vs, e, dpAll_thin hL s t f⟩
theorem thin_star {J1 J2 : Res} (a : J1.Thin) (b : J2.Thin) : (J1.star J2).Thin := fun L B H hL s h => ⟨a L B H hL s h.1, b L B H hL s h.2.1, h.2.2⟩
theorem thin_tabs {T : List (Addr × Str)} : (Res.tabs T).Thin := fun L B H hL s h => h
theorem thin_emp : Res.Thin .emp := fun L B H hL s h => h
/-- lists that one holds -/
def Res.hold (L : Hp) : Res := ⟨fun _ H => Same L H, fun z => L z ≠ none, fun _ _ _ _ _ k _ _ h a o e => k a o (by rw [e]; exact Option.some_ne_none _) (h a o e)⟩
/-- .. and the datum that v is with them -/
def Res.tmp (K : PySem.W.Frag) (L : Hp) (v : V) (d : PyData) : Res := ⟨fun B H => Same L H ∧ Dp K (joinH L B) v d, fun z => L z ≠ none, fun _ _ _ _ s k _ _ h => ⟨fun a o e => k a o (by rw [e]; exact Option.some_ne_none _) (h.1 a o e), Dp.up (join_same s) h.2⟩⟩
theorem Cv.hold {K : PySem.W.Frag} {L : Hp} {v : V} {d : PyData} : Cv (Res.tmp K L v d) (Res.hold L) := ⟨fun _ _ h => h.1, fun _ h => h⟩
theorem fr_hold {L : Hp} : (Res.hold L).Fr := fun _ _ _ _ s k h a o e => k a o (by show L a ≠ none; rw [e]; exact Option.some_ne_none _) (h a o e)
theorem fr_tmp {K : PySem.W.Frag} {L : Hp} {v : V} {d : PyData} : (Res.tmp K L v d).Fr := fun _ _ _ _ s k h => ⟨fun a o e => k a o (by show L a ≠ none; rw [e]; exact Option.some_ne_none _) (h.1 a o e), Dp.up (join_same s) h.2⟩
/-- the arguments, the lent value as its datum -/
inductive Lent (v : V) (d : PyData) : List Sl → List Sl → Prop
  | nil : Lent v d [] []
  | same {r : Sl} {rs qs : List Sl} : Lent v d rs qs → Lent v d (r :: rs) (r :: qs)
  | lent {rs qs : List Sl} : Lent v d rs qs → Lent v d (.raw v :: rs) (.dat d :: qs)
def thinS : Sl → Bool
  | .dat d => noL d
  | .raw _ => true
  | .un => true
  | _ => false
section
variable {A : Act} {ρ : List Sl} {J F : Res} {R : Sl → Res → Prop} {e o : Expr} {pos p apos : Pos} {α : Type} {S : Spec α} {rs : List Sl}
theorem lent_pair {v : V} {d : PyData} {W : Wd} {σ : St} {B1 : Hp} (s : Same W.B B1) (hd : Dp A.X.K B1 v d) : ∀ {rs qs : List Sl} {vs : List V}, Lent v d rs qs → qs.all isStb = true → Paired (fun v r => RtA A J W σ ρ v r) vs rs → Paired (fun v r => VOk A.X.K ⟨B1, W.H⟩ ⟨B1, W.H⟩ v r) vs qs
  | _, _, _, .nil, _, .nil => .nil
  | _, _, _, .same (r := r) h, hs, .cons a b => by
    obtain ⟨h1, h2⟩ := Bool.and_eq_true_iff.mp (show (isStb r && List.all _ isStb) = true from hs)
    refine .cons ?_ (lent_pair s hd h h2 b)
    have a1 := a.1
    cases r with
    | dat d => exact Dp.up s a1
    | fct F => exact F.mono s a1
    | raw u => exact a1
    | un => exact True.intro
    | own ds => cases h1
    | bor ds => cases h1
  | _, _, _, .lent h, hs, .cons a b => by
    obtain ⟨h1, h2⟩ := Bool.and_eq_true_iff.mp (show (isStb (.dat d) && List.all _ isStb) = true from hs)
    exact .cons (by rw [show _ = v from a.1]; exact hd) (lent_pair s hd h h2 b)
theorem icallZ (a : α) (F : Res) {L : Hp} {v : V} {d : PyData} (hL : Lists L) (e : Lent v d rs (S.args a)) (st : (S.args a).all isStb = true) (pre : S.pre a) (c : Cv J ((S.J a).star (F.star (Res.tmp A.X.K L v d)))) (nt : F.FrT)
    (hM : ∀ z o, S.M a z o → (S.J a).fp z ∧ (A.M.z z → A.M.m z o)) (hr : ∀ r J', S.rt a r J' → thinS r = true ∧ J'.Thin ∧ R r (J'.star (F.star (Res.tmp A.X.K L v d)))) (he : ∀ e J', S.ex a e J' → noL e.d = true ∧ J'.Thin ∧ A.px e (J'.star (F.star (Res.tmp A.X.K L v d)))) : ICall S A ρ J rs R := .mk fun W σ vs Q E X o k => by
  have E1 := E.conv c
  have tmp := E1.res.2.1.2.1
  have dj : ∀ a, L a ≠ none → W.B a = none := fun a h => (E1.sep a (.inr (.inr h))).1
  have s1 : Same W.B (joinH L W.B) := sub_join dj
  have s2 : Same (joinH L W.B) W.H := join_sub tmp.1 E.ok
  have nt1 : ∀ a ps, joinH L W.B a ≠ some (.tbl ps) := fun a ps z => by
    cases q : L a with
    | some u =>
      obtain ⟨us, rfl⟩ := hL a u q
      rw [join_in q] at z; cases z
    | none => rw [join_out q] at z; exact E1.st.t E1.nt a ps z
  have ntF : (F.star (Res.tmp A.X.K L v d)).FrT := frT_star nt fr_tmp.t
  -- back to the caller's world
  have back : ∀ {J' : Res} {W' : Wd}, Sat A.X.K (S.md a) ⟨joinH L W.B, W.H⟩ J' W' → J'.Thin → Same L W'.B ∧ Sat A.X.K (S.md a) W J' ⟨cutH L W'.B, W'.H⟩ := fun {J' W'} S1 th => by
    have sL : Same L W'.B := fun a o e => S1.st.b a o (join_in e)
    refine ⟨sL, fun a o e => S1.ok a o (cut_sub a o e), ⟨fun a o e => ?_, fun a o e => S1.ok a o (cut_sub a o e), S1.st.k, fun a e => ?_, S1.st.l, S1.st.c, fun z a ps e => S1.st.t nt1 a ps (cut_sub a _ e)⟩, th L _ _ hL sL S1.res, fun a h => ⟨?_, (S1.sep a h).2.1, (S1.sep a h).2.2⟩⟩
    · show cutH L W'.B a = some o
      cases q : L a with
      | some u => rw [dj a (by rw [q]; exact Option.some_ne_none _)] at e; cases e
      | none =>
        rw [cut_out q]
        exact S1.st.b a o (s1 a o e)
    · have e' : cutH L W'.B a ≠ none := e
      cases q : L a with
      | some u => rw [cut_in q] at e'; exact absurd rfl e'
      | none =>
        rw [cut_out q] at e'
        rcases S1.st.n a e' with z | z
        · refine .inl ?_
          have z' : joinH L W.B a ≠ none := z
          rw [join_out q] at z'
          exact z'
        · exact .inr z
    · show cutH L W'.B a = none
      cases q : L a with
      | some u => exact cut_in q
      | none => rw [cut_out q]; exact (S1.sep a h).1
  refine ⟨a, joinH L W.B, s2, nt1, lent_pair s1 tmp.2 e st o, pre, (S.J a).mono _ _ _ _ s1 (fun _ _ _ e => e) (fun _ _ e => e) (fun _ t => t) E1.res.1, fun z hz => ?_, fun r J' W' v' h1 S1 o1 => ?_, fun e J' W' v' dd h1 S1 h2 hb h3 => ?_⟩
  · have sp := E1.sep z (.inl hz)
    refine ⟨?_, sp.2.1⟩
    cases q : L z with
    | some u => exact absurd (.inr (by show L z ≠ none; rw [q]; exact Option.some_ne_none _)) (E1.res.2.2 z hz)
    | none => rw [join_out q]; exact sp.1
  · obtain ⟨t1, t2, hR⟩ := hr r J' h1
    obtain ⟨sL, S2⟩ := back S1 t2
    have E2 := E1.callT ntF hM S2
    refine k r _ v' ⟨cutH L W'.B, W'.H⟩ hR S2.st.b E2 ?_
    cases r with
    | dat d' => exact RtA.dat (dp_thin hL sL t1 o1)
    | raw u => exact RtOk.of o1
    | un => exact RtOk.of True.intro
    | _ => cases t1
  · obtain ⟨t1, t2, hR⟩ := he e J' h1
    obtain ⟨sL, S2⟩ := back S1 t2
    refine X e _ v' dd ⟨cutH L W'.B, W'.H⟩ hR (E1.callT ntF hM S2).sat h2 ?_ (dp_thin hL sL t1 h3)
    show cutH L W'.B dd = none
    cases q : L dd with
    | some u => exact cut_in q
    | none => rw [cut_out q]; exact hb
end
section
variable {A : Act} {ρ : List Sl} {J F : Res} {R : Sl → Prop} {e o : Expr} {pos p apos : Pos} {nx bk ct : List Sl → Res → Prop} {rt : Sl → Res → Prop} {sts : List Stmt} {L : Hp}
def oneH (p : Addr) (vs : List V) : Hp := upd (fun _ => none) p (.lst vs)
theorem lists_one {p : Addr} {vs : List V} : Lists (oneH p vs) := fun a o e => by
  unfold oneH at e
  by_cases h : a = p
  · subst h; rw [upd_same] at e; exact ⟨vs, (Option.some.inj e).symm⟩
  · rw [upd_ne h] at e; cases e
/-- a list of one's own, held from now on -/
theorem wss_tmp (i : Nat) {ds : List PyData} (h : ∀ p vs, vs.length = ds.length → Wss A sts (ρ.set i (.raw (.ref p))) ((Res.tmp A.X.K (oneH p vs) (.ref p) (.list ds)).star J) nx rt bk ct) (hr : ρ[i]? = some (.own ds) := by rfl) : Wss A sts ρ J nx rt bk ct := .mk fun W σ D E X k => by
  obtain ⟨v, ha, p, vs, ev, h0, hB, hH, hd⟩ := E.sl i _ hr
  subst ev
  have hi : i < ρ.length := (List.getElem?_eq_some_iff.mp hr).1
  have nJ := E.nof i p _ hr rfl ha
  have geto : ∀ {j : Nat} {q : Sl}, (ρ.set i (.raw (.ref p)))[j]? = some q → isOwn q = true → i ≠ j ∧ ρ[j]? = some q := fun {j q} hq ho => by
    by_cases hj : i = j
    · subst hj
      rw [List.getElem?_set_self hi] at hq
      have e := Option.some.inj hq
      subst e; cases ho
    · rw [List.getElem?_set_ne hj] at hq
      exact ⟨hj, hq⟩
  have fpo : ∀ z, oneH p vs z ≠ none → z = p := fun z hz => by
    by_cases h : z = p
    · exact h
    · unfold oneH at hz; rw [upd_ne h] at hz; exact absurd rfl hz
  have one : oneH p vs p = some (.lst vs) := upd_same
  refine h p vs (DpAll.len hd) W σ D ⟨E.ok, E.st, by rw [List.length_set]; exact E.len, fun j q hq => ?_, fun j l a q q' h1 h2 o1 o2 a1 a2 => E.ds j l a q q' (geto h1 o1).2 (geto h2 o2).2 o1 o2 a1 a2, ⟨⟨fun a o e => ?_, ?_⟩, E.res, fun z z1 z2 => nJ (by rw [← fpo z z1]; exact z2)⟩, fun z hz => ?_, fun j a q h1 h2 h3 hz => ?_, fun j ds' hq => ?_, E.nt⟩ X k
  · by_cases hj : i = j
    · subst hj
      rw [List.getElem?_set_self hi] at hq
      have e := Option.some.inj hq
      subst e
      exact ⟨_, ha, rfl⟩
    · rw [List.getElem?_set_ne hj] at hq
      exact E.sl j q hq
  · have z := fpo a (by rw [e]; exact Option.some_ne_none _)
    subst z
    rw [one] at e
    rw [← e]; exact hH
  · refine .lst (SqL.of (join_in one)) (DpAll.up (sub_join fun a ha => ?_) hd)
    rw [fpo a ha]; exact hB
  · rcases hz with hz | hz
    · rw [fpo z hz]
      exact ⟨hB, Nt.lst hH, .inr h0⟩
    · exact E.sep z hz
  · rcases hz with hz | hz
    · obtain ⟨n, e⟩ := geto h1 h2
      have e2 := fpo a hz
      subst e2
      exact n (E.ds i j a _ _ hr e rfl h2 ha h3)
    · exact E.nof j a q (geto h1 h2).2 h2 h3 hz
  · by_cases hj : i = j
    · subst hj
      rw [List.getElem?_set_self hi] at hq
      cases Option.some.inj hq
    · rw [List.getElem?_set_ne hj] at hq
      exact E.nob j ds' hq
/-- != of a lent value -/
theorem od_neV {v : V} {r2 : Sl} {d d2 : PyData} (hu : A.X.A.units + 64 < cLine) (cv : ∀ B H, J.P B H → (Res.tmp A.X.K L v d).P B H) (h2 : dOf r2 = some d2) (s1 : SeqAt.shaped d = true) (s2 : SeqAt.shaped d2 = true) (h : R (dB (!PyData.eqv d d2))) : Od A (compareOp .NotEq) ρ J (.raw v) r2 R :=
  od_val _ (op_neD hu) fun W σ v1 v2 Q E o1 o2 k => by
    have q := cv _ _ E.res
    have e := o1.1
    subst e
    exact ⟨d, d2, Dp.up (join_sub q.1 E.ok) q.2, o2.dp h2 E.ok, s1, s2, k.now E h RtA.bl⟩
theorem we_varR (i : Nat) {x : Str} {v : V} (h : R (.raw v)) (hr : ρ[i]? = some (.raw v) := by rfl) (hN : A.X.N[i]? = some x := by rfl) (hv : Vis A.X.env.scope x := by first | exact Or.inl rfl | exact Or.inr (Or.inl rfl) | exact Or.inr (Or.inr rfl))
    (hd : (x == ("__debug__" : Str)) = false := by decide) (hcd : (x == ("__classdict__" : Str)) = false := by decide) : We A (.Name x pos) ρ J R := we_var i h hr (fun z => nomatch z) rfl hN hv hd hcd
/-- reading a held list -/
theorem id_hold {q : Addr} {xs : List V} {k : Int} {v : V} (cv : ∀ B H, J.P B H → Same L H) (hq : L q = some (.lst xs)) (hv : atI xs k = some v) (h : R (.raw v)) : Id A ρ J (.raw (.ref q)) (dI k) R := .mk fun W σ v1 v2 Q E o1 o2 kk => by
  have e1 := o1.1
  have e2 := dp_int o2.1
  subst e1
  subst e2
  exact i_at ix_list ⟨q, xs, k, v, rfl, rfl, SqL.of (cv _ _ E.res q _ hq), hv, kk.now E h (RtOk.of rfl)⟩
theorem cd_lenH {q : Addr} {xs : List V} {n : Nat} (cv : ∀ B H, J.P B H → Same L H) (hq : L q = some (.lst xs)) (hn : xs.length = n) (h : R (dI n)) : Cd A (.builtin "len") ρ J [.raw (.ref q)] R := .mk fun W σ vs Q E o k => by
  cases o with
  | cons o1 on =>
    cases on
    have e1 := o1.1
    subst e1
    exact c_at call_len ⟨_, n, rfl, .inl ⟨xs, SqL.of (cv _ _ E.res q _ hq), hn.symm⟩, k.now E h RtA.int⟩
/-- a[b] = e, a held list -/
theorem ws_setixH {a b : Expr} {tpos : Pos} (hz : ∀ q, A.M.z q → L q ≠ none → ∀ o, A.M.m q o) (hL : Lists L) (cv : Cv J ((Res.hold L).star F)) (h : We A e ρ J fun r => We A a ρ J fun r1 => ∃ q xs, r1 = .raw (.ref q) ∧ L q = some (.lst xs) ∧ We A b ρ J fun r2 => ∃ k j, r2 = dI k ∧ ixN xs.length k = some j ∧ ∀ v, nx ρ ((Res.hold (upd L q (.lst (xs.set j v)))).star F))
    (hs : swapsWithSole [.Subscript a b tpos] e pos.line A.X.env = pure false := by rfl) (hw : swappedStores [.Subscript a b tpos] e A.X.env = pure none := by rfl)
    (h1 : (assignEach [.Subscript a b tpos] A.X.env).map (·.2) = [assign (.Subscript a b tpos) A.X.env] := by rfl)
    (ha : ∀ v, assign (.Subscript a b tpos) A.X.env v = (do
      let ov ← holding [v] (eval a A.X.env)
      let iv ← holding [v, ov] (eval b A.X.env)
      standAt tpos
      holding [v, ov, iv] (setItem ov iv v)
      release [v, ov, iv] []) := by intro _; rfl) : Ws A (.Assign [.Subscript a b tpos] e pos) ρ J nx rt bk ct := .mk fun W σ D E X k => by
  refine s_at (ps_asg pe_sem (pg_sub pe_sem pe_sem set_list ha) hs hw h1) ?_
  show tE A.X e σ W.H fun x H1 => tE A.X a σ H1 fun o H2 => tE A.X b σ H2 fun i H3 => rSetL o i x H3 fun H4 => D.nx σ H4
  refine h W σ _ E X fun r v W1 h1 s1 o1 => ?_
  refine h1 W1 σ _ (E.up s1) X fun r1 v1 W2 h2 s2 o2 => ?_
  obtain ⟨q, xs, rfl, hq, h2⟩ := h2
  refine h2 W2 σ _ ((E.up s1).up s2) X fun r2 v2 W3 h3 s3 o3 => ?_
  obtain ⟨kk, j, rfl, hj, hn⟩ := h3
  have E3 := (((E.up s1).up s2).up s3).conv cv
  have hH := E3.res.1 q _ hq
  refine ⟨q, xs, kk, j, o2.1, dp_int o3.1, hH, hj, ?_⟩
  refine k.nx ρ _ ⟨W3.B, upd W3.H q (.lst (xs.set j v))⟩ σ (hn v) ((s1.trans s2).trans s3).b ?_
  have nq : L q ≠ none := by rw [hq]; exact Option.some_ne_none _
  refine E3.put (J2 := Res.hold (upd L q (.lst (xs.set j v)))) nq hH (fun _ z => by cases z) (fun q z => code_ne z.symm) (fun z => .inl (hz q z nq _)) (fun _ z => by cases z) (fun a ha => ?_) fun hs a o e => ?_
  · show L a ≠ none
    have ha : upd L q (.lst (xs.set j v)) a ≠ none := ha
    by_cases haq : a = q
    · rw [haq]; exact nq
    · rw [upd_ne haq] at ha; exact ha
  · by_cases haq : a = q
    · subst haq
      rw [upd_same] at e ⊢
      exact e
    · rw [upd_ne haq] at e ⊢
      exact hs a o e
/-- a.append(e), a held list -/
theorem ws_appendH {a : Expr} {cpos : Pos} (hz : ∀ q, A.M.z q → L q ≠ none → ∀ o, A.M.m q o) (cv : Cv J ((Res.hold L).star F)) (h : We A a ρ J fun r1 => ∃ q xs, r1 = .raw (.ref q) ∧ L q = some (.lst xs) ∧ xs.length < 1000000 ∧ We A e ρ J fun r => nx ρ F)
    (hs : swapsWith (.Call (.Attribute a "append" apos) [e] [] cpos) none pos.line A.X.env = pure false := by rfl) (hst : starEach [e] A.X.env = (false, eval e A.X.env) :: starEach [] A.X.env := by rfl)
    (hpe : ∀ (to : TE) (t : TA), PE A.X a to → PA A.X [e] t → PE A.X (.Call (.Attribute a "append" apos) [e] [] cpos) (tBM A.X.K "list" (rAppend) to t) := by exact fun to t ho ha => pe_bm PySem.F.plainAttrs_list PySem.F.slot_list_append PySem.F.type_list_append mt_append ho ha) :
    Ws A (.Expr (.Call (.Attribute a "append" apos) [e] [] cpos) pos) ρ J nx rt bk ct := .mk fun W σ D E X k => by
  refine s_at (ps_expr (hpe _ _ pe_sem (pa_cons pe_sem pa_nil hst)) hs) ?_
  show tE A.X a σ W.H fun x H1 => tyV A.X.K "list" x H1 ∧ tE A.X e σ H1 fun y H2 => rAppend x [y] H2 fun _ H1 => D.nx σ H1
  refine h W σ _ E X fun r0 v0 W1 h1 s1 o1 => ?_
  obtain ⟨q, xs, rfl, hq, hl, h1⟩ := h1
  have E1 := E.up s1
  have hH1 := (cv.p _ _ E1.res).1 q _ hq
  have ev : v0 = .ref q := o1.1
  subst ev
  refine ⟨.inl ⟨rfl, _, SqL.of hH1⟩, ?_⟩
  refine h1 W1 σ _ E1 X fun r v W2 h2 s2 o2 => ?_
  have E2 := (E1.up s2).conv cv
  have hH := E2.res.1 q _ hq
  have nq : L q ≠ none := by rw [hq]; exact Option.some_ne_none _
  refine ⟨q, xs, v, rfl, rfl, hH, Nat.lt_of_lt_of_le hl (by decide), ?_⟩
  refine k.nx ρ _ ⟨W2.B, upd W2.H q (.lst (xs ++ [v]))⟩ σ h2 (s1.trans s2).b ?_
  exact (E2.put (J2 := .emp) nq hH (fun _ z => by cases z) (fun q z => code_ne z.symm) (fun z => .inl (hz q z nq _)) (fun _ z => by cases z) (fun _ z => z.elim) fun _ => True.intro).conv Cv.snd
end
end DL

namespace DL
open PySem PySem.Spec PyProof.Rows L2
/-- where a name stands -/
def nIx (x : Str) : List Str → Nat → Nat
  | [], n => n
  | y :: r, n => if y.cps == x.cps then n else nIx x r (n + 1)
theorem str_of {x y : Str} (h : (x.cps == y.cps) = true) : x = y := by
  cases x; cases y
  have e := eq_of_beq h
  exact congrArg Str.mk e
theorem nIx_at {x : Str} : ∀ {N : List Str} {n : Nat}, nIx x N n < n + N.length → N[nIx x N n - n]? = some x ∧ n ≤ nIx x N n
  | [], n, h => absurd h (Nat.lt_irrefl _)
  | y :: r, n, h => by
    unfold nIx at h ⊢
    by_cases c : (y.cps == x.cps) = true
    · rw [if_pos c]
      have e := str_of c
      subst e
      simp
    · rw [if_neg c] at h ⊢
      have h2 : nIx x r (n + 1) < (n + 1) + r.length := by simpa [Nat.add_assoc, Nat.add_comm 1] using h
      obtain ⟨i1, i2⟩ := nIx_at h2
      refine ⟨?_, by omega⟩
      obtain ⟨k, hk⟩ : ∃ k, nIx x r (n + 1) - n = k + 1 := ⟨nIx x r (n + 1) - n - 1, by omega⟩
      rw [hk, List.getElem?_cons_succ]
      have : k = nIx x r (n + 1) - (n + 1) := by omega
      rw [this]; exact i1
section
variable {A : Act} {ρ : List Sl} {J : Res} {R : Sl → Prop} {pos : Pos}
theorem nIx0 {x : Str} {N : List Str} {i : Nat} (h : nIx x N 0 = i) (hl : Nat.blt i N.length = true) : N[i]? = some x := by
  have := (nIx_at (x := x) (N := N) (n := 0) (by rw [h, Nat.zero_add]; exact Nat.le_of_ble_eq_true hl)).1
  rw [h] at this
  exact this
theorem we_varI {x : Str} {i : Nat} {r : Sl} (h : R r) (hi : nIx x A.X.N 0 = i := by rfl) (hl : Nat.blt i A.X.N.length = true := by rfl) (hr : ρ[i]? = some r := by rfl) (hu : r ≠ .un := by exact fun z => nomatch z) (ho : isOwn r = false := by rfl) (hv : Vis A.X.env.scope x := by first | exact Or.inl rfl | exact Or.inr (Or.inl rfl) | exact Or.inr (Or.inr rfl))
    (hd : (x == ("__debug__" : Str)) = false := by decide) (hcd : (x == ("__classdict__" : Str)) = false := by decide) : We A (.Name x pos) ρ J R := we_var i h hr hu ho (nIx0 hi hl) hv hd hcd
theorem we_varOI {x : Str} {i : Nat} {ds : List PyData} (h : R (.bor ds)) (hi : nIx x A.X.N 0 = i := by rfl) (hl : Nat.blt i A.X.N.length = true := by rfl) (hr : ρ[i]? = some (.own ds) := by rfl) (hv : Vis A.X.env.scope x := by first | exact Or.inl rfl | exact Or.inr (Or.inl rfl) | exact Or.inr (Or.inr rfl))
    (hd : (x == ("__debug__" : Str)) = false := by decide) (hcd : (x == ("__classdict__" : Str)) = false := by decide) : We A (.Name x pos) ρ J R := we_varO i h hr (nIx0 hi hl) hv hd hcd
theorem ws_setI {nx bk ct : List Sl → Res → Prop} {rt : Sl → Res → Prop} {e : Expr} {x : Str} {pos' : Pos} {i : Nat} (hN : A.X.N.Nodup) (h : We A e ρ J fun r => isBor r = false ∧ nx (ρ.set i r) J) (hi : nIx x A.X.N 0 = i := by rfl) (hl : Nat.blt i A.X.N.length = true := by rfl) (hx : Loc A.X.env.scope x := by first | exact Or.inl rfl | exact Or.inr rfl)
    (hs : swapsWith e (some (.Name x pos')) pos.line A.X.env = pure false := by rfl) (hf : A.X.fn x = true ∨ A.X.env.scope.names.lookup x = some .local := by first | exact .inl rfl | exact .inr rfl) : Ws A (.Assign [.Name x pos'] e pos) ρ J nx rt bk ct := ws_set i h hN (nIx0 hi hl) hx hs hf
end
theorem ite_dec {p : Prop} [Decidable p] {A B : Prop} (h1 : p → A) (h2 : ¬ p → B) : if decide p = true then A else B := by
  by_cases h : p
  · rw [decide_eq_true h]; exact iteT (h1 h)
  · rw [decide_eq_false h]; exact iteF (h2 h)
theorem ite_ndec {p : Prop} [Decidable p] {A B : Prop} (h1 : ¬ p → A) (h2 : p → B) : if (!decide p) = true then A else B := by
  by_cases h : p
  · rw [decide_eq_true h]; exact iteF (h2 h)
  · rw [decide_eq_false h]; exact iteT (h1 h)
theorem ite_b {b : Bool} {A B : Prop} (h1 : b = true → A) (h2 : b = false → B) : if b = true then A else B := by
  cases b with
  | true => exact iteT (h1 rfl)
  | false => exact iteF (h2 rfl)
section
variable {A : Act} {ρ : List Sl} {J F : Res} {R : Sl → Prop} {e o : Expr} {pos p apos pos' : Pos} {nx bk ct : List Sl → Res → Prop} {rt : Sl → Res → Prop}
/-- len of a list of the resource -/
theorem cd_lenJ {q : Addr} {ds : List PyData} {n : Nat} (cv : ∀ B H, J.P B H → (Res.lst A.X.K q ds).P B H) (hn : ds.length = n) (h : R (dI n)) : Cd A (.builtin "len") ρ J [.raw (.ref q)] R := .mk fun W σ vs Q E o k => by
  cases o with
  | cons o1 on =>
    cases on
    have e1 := o1.1
    subst e1
    obtain ⟨us, e2, hd⟩ := cv _ _ E.res
    exact c_at call_len ⟨_, n, rfl, .inl ⟨us, SqL.of e2, by rw [DpAll.len hd, hn]⟩, k.now E h RtA.int⟩
/-- a.f = e, e of some effect -/
theorem ws_fldJ {a C : Addr} {f : Str} (c : Cls A.X.K C) (n : NoAttr A.X.K C f) (hz : A.M.z a → ∀ o, A.M.m a o)
    (h : Wj A e ρ J fun r J1 => isStb r = true ∧ r ≠ .un ∧ ∃ fs F, Cv J1 ((Res.ins A.X.K a C fs).star F) ∧ fs.length < 1000 ∧ We A o ρ J1 fun r0 => r0 = .raw (.ref a) ∧ nx ρ ((Res.ins A.X.K a C (putS f r fs)).star F)) (hs : swapsWith e (some (.Attribute o f pos')) pos.line A.X.env = pure false := by rfl) : Ws A (.Assign [.Attribute o f pos'] e pos) ρ J nx rt bk ct := .mk fun W σ D E X k => by
  refine s_at (ps_fld pe_sem pe_sem hs) ?_
  show tE A.X e σ W.H fun y H1 => tE A.X o σ H1 fun x H2 => ∃ a C dx fs, x = .ref a ∧ H2 a = some (.ins C dx fs) ∧ Cls A.X.K C ∧ NoAttr A.X.K C f ∧ fs.length < 1000 ∧ D.nx σ (upd H2 a (.ins C dx (putF f y fs)))
  refine h W σ _ E X fun r J1 v W1 h1 s1 E1 o1 => ?_
  obtain ⟨st, hu, fs, F, cv, hl, h1⟩ := h1
  refine h1 W1 σ _ E1 X fun r0 v0 W2 h2 s2 o2 => ?_
  obtain ⟨rfl, hn⟩ := h2
  have E2 := (E1.up s2).conv cv
  obtain ⟨dx, vs, e, q⟩ := E2.res.1
  have fo := rt_fok (o1.up s2) st hu
  refine ⟨a, C, dx, vs, o2.1, e, c, n, by rw [q.len]; exact hl, ?_⟩
  refine k.nx ρ _ ⟨W2.B, upd W2.H a (.ins C dx (putF f v vs))⟩ σ hn (s1.trans s2.b) ?_
  exact E2.put (J2 := Res.ins A.X.K a C (putS f r fs)) rfl e (fun _ z => by cases z) (fun q z => by unfold LamX.CodeO at z; cases z) (fun z => .inl (hz z _)) (fun _ z => by cases z) (fun _ z => z) fun _ => ⟨dx, _, upd_same, q.put fo⟩
end
end DL

namespace DL
open PySem PySem.Spec PyProof.Rows L2
/-! ### an own list, lent for one expression -/
section
variable {A : Act} {ρ : List Sl} {J : Res} {R : Sl → Prop} {e : Expr} {es : List Expr} {pos : Pos} {nx bk ct : List Sl → Res → Prop} {rt : Sl → Res → Prop}
theorem lend_back {W W1 : Wd} {p : Addr} {vs : List V} (ok : Same W.B W.H) (hB : W.B p = none) (hH : W.H p = some (.lst vs)) (s : Stp0 ⟨upd W.B p (.lst vs), W.H⟩ W1) : Stp0 W ⟨cutH (oneH p vs) W1.B, W1.H⟩ ∧ Same (oneH p vs) W1.B := by
  have one : oneH p vs p = some (.lst vs) := upd_same
  have off : ∀ a, a ≠ p → oneH p vs a = none := fun a h => by unfold oneH; rw [upd_ne h]
  have up : ∀ a o, W.B a = some o → upd W.B p (.lst vs) a = some o := fun a o e => by rw [upd_ne (ne_of_none e hB)]; exact e
  refine ⟨⟨fun a o e => ?_, fun a o e => s.h a o (cut_sub a o e), fun a o e m => s.k a o e m, fun a e => ?_, s.l, s.c, fun z a ps e => s.t (fun b ps' z' => ?_) a ps (cut_sub a _ e)⟩, fun a o e => ?_⟩
  · show cutH _ _ a = some o
    rw [cut_out (off a (ne_of_none e hB))]
    exact s.b a o (up a o e)
  · have e' : cutH (oneH p vs) W1.B a ≠ none := e
    by_cases h : a = p
    · subst h; rw [cut_in one] at e'; exact absurd rfl e'
    · rw [cut_out (off a h)] at e'
      rcases s.n a e' with z | z
      · refine .inl ?_
        have z' : upd W.B p (.lst vs) a ≠ none := z
        rw [upd_ne h] at z'
        exact z'
      · exact .inr z
  · have z'' : upd W.B p (.lst vs) b = some (.tbl ps') := z'
    by_cases h : b = p
    · subst h; rw [upd_same] at z''; cases z''
    · rw [upd_ne h] at z''; exact z b ps' z''
  · by_cases h : a = p
    · subst h
      rw [one] at e
      rw [← e]
      exact s.b a _ upd_same
    · rw [off a h] at e; cases e
theorem rt_thin {W1 : Wd} {σ : St} {ρ' : List Sl} {J' : Res} {v : V} {r : Sl} {p : Addr} {vs : List V} (sL : Same (oneH p vs) W1.B) (t : thinS r = true) (o : RtA A J' W1 σ ρ' v r) : RtA A J ⟨cutH (oneH p vs) W1.B, W1.H⟩ σ ρ v r := by
  cases r with
  | dat d => exact RtA.dat (dp_thin lists_one sL t o.1)
  | raw u => exact RtOk.of o.1
  | un => exact RtOk.of True.intro
  | _ => cases t
/-- what comes back holds no list -/
theorem we_lend (i : Nat) {ds : List PyData} (h : We A e (ρ.set i (.dat (.list ds))) J fun r => thinS r = true ∧ R r) (hr : ρ[i]? = some (.own ds) := by rfl) : We A e ρ J R := .mk fun W σ Q E X k => by
  obtain ⟨p, vs, hB, hH, E'⟩ := E.freeze hr
  refine h ⟨upd W.B p (.lst vs), W.H⟩ σ Q E' X fun r v W1 h1 s1 o1 => ?_
  obtain ⟨s2, sL⟩ := lend_back E.ok hB hH s1
  exact k r v ⟨cutH (oneH p vs) W1.B, W1.H⟩ h1.2 s2 (rt_thin sL h1.1 o1)
/-- .. or the list is given away -/
theorem ws_lend (i j : Nat) {x : Str} {ds : List PyData} {pos' : Pos} (h : We A e (ρ.set i (.dat (.list ds))) J fun r => isStb r = true ∧ (thinS r = true ∧ nx (ρ.set j r) J ∨ nx ((ρ.set i (.dat (.list ds))).set j r) J)) (hN : A.X.N.Nodup) (hr : ρ[i]? = some (.own ds) := by rfl) (hi : A.X.N[j]? = some x := by rfl) (hx : Loc A.X.env.scope x := by first | exact Or.inl rfl | exact Or.inr rfl)
    (hs : swapsWith e (some (.Name x pos')) pos.line A.X.env = pure false := by rfl) (hf : A.X.fn x = true ∨ A.X.env.scope.names.lookup x = some .local := by first | exact .inl rfl | exact .inr rfl) : Ws A (.Assign [.Name x pos'] e pos) ρ J nx rt bk ct := .mk fun W σ D E X k => by
  obtain ⟨p, vs, hB, hH, E'⟩ := E.freeze hr
  refine s_at (ps_set hN hi hx pe_sem hs hf) ?_
  show tE A.X e σ W.H fun x H1 => D.nx (σ.set j (some x)) H1
  refine h ⟨upd W.B p (.lst vs), W.H⟩ σ _ E' X fun r v W1 h1 s1 o1 => ?_
  obtain ⟨st, h1⟩ := h1
  have nb : ∀ ds, r ≠ .bor ds := fun ds z => by subst z; cases st
  rcases h1 with ⟨t, hn⟩ | hn
  · obtain ⟨s2, sL⟩ := lend_back E.ok hB hH s1
    exact k.nx _ J ⟨cutH (oneH p vs) W1.B, W1.H⟩ _ hn s2.b ((E.up s2).set j (rt_thin sL t o1) nb)
  · have sb : Same W.B W1.B := fun a o e => s1.b a o (by show upd _ _ _ _ = _; rw [upd_ne (ne_of_none e hB)]; exact e)
    exact k.nx _ J W1 _ hn sb ((E'.up s1).set j o1 nb)
/-! ### new lists that last at once -/
theorem Wk.newLF {W : Wd} {σ : St} {Q : VK} (h : Wk A ρ J R W σ Q) (E : EnvA A J W σ ρ) {vs : List V} {ds : List PyData} (ha : DpAll A.X.K W.B vs ds) (hr : R (.dat (.list ds))) : ∀ p, W.H p = none → Q (.ref p) (upd W.H p (.lst vs)) := fun p hp =>
  h _ (.ref p) ⟨upd W.B p (.lst vs), upd W.H p (.lst vs)⟩ hr (Stp.new E.ok hp) (RtA.dat (.lst (SqL.of upd_same) (DpAll.up (Stp.new (o := .lst vs) E.ok hp).b ha)))
theorem we_lstF (h : Wa A es ρ J fun rs => ∃ ds, datsOf rs = some ds ∧ ds.length ≤ 100000 ∧ R (dL ds)) : We A (.List es pos) ρ J R := .mk fun W σ Q E X k => by
  refine e_at (pe_lst pa_sem) ?_
  show tA A.X es σ W.H fun xs H1 => xs.length ≤ sizeLine ∧ ∀ p, H1 p = none → Q (.ref p) (upd H1 p (.lst xs))
  refine h W σ _ E X fun rs vs W1 h1 s1 o1 => ?_
  obtain ⟨ds, hd, hl, hr⟩ := h1
  have ha := (dats_of hd).all o1
  exact ⟨by rw [DpAll.len ha]; exact Nat.le_trans hl (by decide), (k.from s1).newLF (E.up s1) ha hr⟩
theorem od_addLF {r1 r2 : Sl} {ds es : List PyData} (h1 : dOf r1 = some (.list ds)) (h2 : dOf r2 = some (.list es)) (hl : ds.length + es.length ≤ 100000) (h : R (dL (ds ++ es))) : Od A (binaryOp .Add) ρ J r1 r2 R := od_val _ op_catL fun W σ v1 v2 Q E o1 o2 k => by
  obtain ⟨a, xs, rfl, q1, p1⟩ := o1.lst h1 E.ok
  obtain ⟨b, ys, rfl, q2, p2⟩ := o2.lst h2 E.ok
  exact ⟨a, b, xs, ys, rfl, rfl, q1, q2, by rw [DpAll.len p1, DpAll.len p2]; exact Nat.le_trans hl (by decide), k.newLF E (DpAll.app p1 p2) h⟩
theorem sd_lstF {r : Sl} {ds : List PyData} {lo hi : Option Int} (hr : dOf r = some (.list ds)) (h : R (dL (DL.cutD ds lo hi))) : Sd A ρ J r lo hi R := .mk fun W σ v1 Q E o1 k => by
  obtain ⟨p, xs, rfl, q1, p1⟩ := o1.lst hr E.ok
  exact sl_at sl_list ⟨p, xs, rfl, q1, k.newLF E (cut_dp p1) h⟩
end
end DL

namespace DL
open PySem PySem.Spec PyProof.Rows L2
/-! ### a list of new lists, all held -/
/-- the lists at the places of us, each of n items -/
structure NestOk (L : Hp) (D : Addr) (us : List V) (n : Nat) : Prop where
  top : L D = some (.lst us)
  at_ : ∀ (k : Nat), k < us.length → ∃ q xs, us[k]? = some (.ref q) ∧ q ≠ D ∧ L q = some (.lst xs) ∧ xs.length = n
  lists : Lists L
/-- the turns' resource: the outer list at D, the inner ones in L -/
def Res.nest (K : PySem.W.Frag) (L : Hp) (D : Addr) (us : List V) (acc : List PyData) : Res := ⟨fun B H => H D = some (.lst us) ∧ Same L H ∧ L D = none ∧ DpAll K (joinH L B) us acc, fun z => z = D ∨ L z ≠ none,
  fun _ _ _ _ s k _ _ h => ⟨k _ _ (.inl rfl) h.1, fun a o e => k a o (.inr (by rw [e]; exact Option.some_ne_none _)) (h.2.1 a o e), h.2.2.1, DpAll.up (join_same s) h.2.2.2⟩⟩
section
variable {A : Act} {ρ : List Sl} {J : Res} {e : Expr} {pos : Pos} {vs : List Nat}
theorem wipeS_own {i : Nat} {q : Sl} : ∀ (vs : List Nat), (wipeS ρ vs)[i]? = some q → isOwn q = true → ρ[i]? = some q
  | [], h, _ => h
  | v :: vs, h, ho => by
    have h : ((wipeS ρ vs).set v .un)[i]? = some q := h
    by_cases e : v = i
    · subst e
      by_cases hj : v < (wipeS ρ vs).length
      · rw [List.getElem?_set_self hj] at h
        rw [← Option.some.inj h] at ho; cases ho
      · rw [List.getElem?_eq_none (by rw [List.length_set]; omega)] at h; cases h
    · rw [List.getElem?_set_ne e] at h
      exact wipeS_own vs h ho
theorem wipe_at {σ : St} {i : Nat} {v : V} : ∀ (vs : List Nat), at_ (L2.wipe σ vs) i = some v → at_ σ i = some v
  | [], h => h
  | w :: vs, h => wipe_at vs (at_wipe1 (j := w) h).1
/-- one turn, its element a new list of n items -/
def TurnN (A : Act) (scope : Scope) (vs : List Nat) (n : Nat) (tg elt : Expr) (ρ : List Sl) (J : Res) (r : Sl) (acc : List PyData) (R : List PyData → Prop) : Prop := ∃ (ρ2 : List Sl) (ds : List PyData), wipeS ρ2 vs = wipeS ρ vs ∧
  (∀ (s : Shared) (H : Hp) (C : Addr) (cl : List (Str × Addr)) (fp : List Addr) (L : Hp) (D : Addr) (us : List V), Wgc (bAct A s H scope cl C fp) tg (wipeS ρ vs) ((Res.nest A.X.K L D us acc).star J) r vs fun ρ' => ρ' = ρ2) ∧
  acc.length < 100000 ∧ ds.length = n ∧ R (acc ++ [.list ds]) ∧ ∀ (s : Shared) (H : Hp) (C : Addr) (cl : List (Str × Addr)) (fp : List Addr) (L : Hp) (D : Addr) (us : List V), We (bAct A s H scope cl C fp) elt ρ2 ((Res.nest A.X.K L D us acc).star J) fun q => q = .own ds
def LnI (A : Act) (ρ : List Sl) (J : Res) (σ : St) (vs : List Nat) (n : Nat) (D : Addr) (W1 : Wd) (Iv : List PyData → Prop) (H : Hp) : Prop := ∃ (W' : Wd) (L : Hp) (us : List V) (acc : List PyData), W'.H = H ∧ Stp0 W1 W' ∧ Iv acc ∧ Lists L ∧ (∀ k, k < us.length → ∃ q xs, us[k]? = some (.ref q) ∧ q ≠ D ∧ L q = some (.lst xs) ∧ xs.length = n) ∧
  EnvA A ((Res.nest A.X.K L D us acc).star J) W' (L2.wipe σ vs) (wipeS ρ vs)
theorem lni_start {σ : St} {W1 : Wd} {D : Addr} {n : Nat} {Iv : List PyData → Prop} (E : EnvA A J W1 σ ρ) (hD : W1.H D = none) (h : Iv []) : LnI A ρ J σ vs n D W1 Iv (upd W1.H D (.lst [])) := by
  have s := Stp.mine (o := .lst []) E.ok hD
  have E1 := (E.up s).wipe vs
  have E0 := E.wipe vs
  have fr := E.fresh (Nt.not hD)
  refine ⟨⟨W1.B, upd W1.H D (.lst [])⟩, fun _ => none, [], [], rfl, s, h, (fun a o e => nomatch e), fun k hk => absurd hk (Nat.not_lt_zero k), ⟨E1.ok, E1.st, E1.len, E1.sl, E1.ds, ⟨⟨upd_same, (fun a o e => nomatch e), rfl, .nil⟩, E1.res, fun x y z => ?_⟩, fun x hx => ?_, fun i p q h1 h2 h3 z => ?_, E1.nob, E1.nt⟩⟩
  · rcases y with y | y
    · exact fr.1 (by rw [← show x = D from y]; exact z)
    · exact y rfl
  · rcases hx with (hx | hx) | hx
    · have hx : x = D := hx
      subst hx
      exact ⟨E.ok.free hD, Nt.lst upd_same, .inr (E.live (Nt.not hD))⟩
    · exact absurd rfl hx
    · exact E1.sep x hx
  · rcases z with (z | z) | z
    · have z : p = D := z
      subst z
      exact (E0.fresh (Nt.not hD)).2 i q h1 h2 h3
    · exact absurd rfl z
    · exact E1.nof i p q h1 h2 h3 z
theorem lni_turn {σ : St} {W1 : Wd} {D : Addr} {n : Nat} {Iv Iv' : List PyData → Prop} {scope : Scope} {tg elt : Expr} {H : Hp} {x : V} {r : Sl} (E0 : EnvA A J W1 σ ρ) (hD : W1.H D = none) (h : LnI A ρ J σ vs n D W1 Iv H) (hx : ∀ W', Stp0 W1 W' → VOk A.X.K A.W0 W' x r) (hr : isMine r = false)
    (ht : ∀ acc, Iv acc → TurnN A scope vs n tg elt ρ J r acc Iv') : gB A.X scope tg x (L2.wipe σ vs) H fun σ2 H2 => L2.wipe σ2 vs = L2.wipe σ vs ∧ tTs A.X scope [] σ2 H2 fun b H3 =>
      if b = true then eB A.X scope elt σ2 H3 fun y H4 => ∃ acc, H4 D = some (.lst acc) ∧ acc.length < sizeLine ∧ LnI A ρ J σ vs n D W1 Iv' (upd H4 D (.lst (acc ++ [y]))) else LnI A ρ J σ vs n D W1 Iv' H3 := by
  obtain ⟨W', L, us, acc, rfl, s1, iv, hL, hus, E1⟩ := h
  obtain ⟨ρ2, ds, hw2, hg, hlen, hdn, hR, he⟩ := ht acc iv
  intro s H0 C cl fp
  refine hg s H0 C cl fp L D us W' (L2.wipe σ vs) x _ E1 (RtOk.of (hx W' s1) hr) fun ρ2' σ2 hw E2 w2 => ?_
  subst hw
  rw [wipe_twice] at w2
  refine ⟨w2, ?_⟩
  have hw2 : wipeS ρ2' vs = wipeS ρ vs := hw2
  show if true = true then eB A.X scope elt σ2 W'.H (fun y H4 => ∃ acc, H4 D = some (.lst acc) ∧ acc.length < sizeLine ∧ LnI A ρ J σ vs n D W1 Iv' (upd H4 D (.lst (acc ++ [y])))) else LnI A ρ J σ vs n D W1 Iv' W'.H
  rw [if_pos rfl]
  intro s H0 C cl fp
  refine he s H0 C cl fp L D us W' σ2 _ E2 bExits fun q v W4 hq s4 o4 => ?_
  subst hq
  have E4 := E1.up s4
  have E24 := E2.up s4
  obtain ⟨⟨eD, sL, nD, hd⟩, rJ, dj⟩ := E4.res
  obtain ⟨p, ws, ev, h0, pB, pH, pd⟩ := o4.1
  subst ev
  have nf := o4.2.1 rfl p rfl
  have npD : p ≠ D := fun z => nf (.inl (.inl z))
  have npL : L p = none := by
    cases q : L p with
    | none => rfl
    | some o => exact absurd (.inl (.inr (by rw [q]; exact Option.some_ne_none _))) nf
  have npJ : ¬ J.fp p := fun z => nf (.inr z)
  have lus : us.length = acc.length := DpAll.len hd
  refine ⟨us, eD, by rw [lus]; exact Nat.lt_of_lt_of_le hlen (by decide), ⟨W4.B, upd W4.H D (.lst (us ++ [.ref p]))⟩, joinH (oneH p ws) L, us ++ [.ref p], acc ++ [.list ds], rfl, ?_, hR, ?_, ?_, ?_⟩
  · have st := s1.trans s4
    refine ⟨st.b, fun a o e => ?_, fun a o e _ => ?_, st.n, fun a e => ?_, fun a q e => code_up eD (st.c a q e), st.t⟩
    · show upd _ _ _ _ = _
      rw [upd_ne (fun z => by rw [z, (E4.sep D (.inl (.inl rfl))).1] at e; cases e)]
      exact E4.ok a o e
    · show upd _ _ _ _ = _
      rw [upd_ne (ne_of_none e hD)]
      exact st.same a o e
    · exact Nt.upd (fun ps z => by cases z) (st.l a e)
  · intro a o e
    by_cases h : a = p
    · subst h
      rw [join_in (L := oneH a ws) upd_same] at e
      exact ⟨ws, (Option.some.inj e).symm⟩
    · rw [join_out (L := oneH p ws) (by unfold oneH; rw [upd_ne h])] at e
      exact hL a o e
  · intro k hk
    rw [List.length_append] at hk
    have hk : k < us.length + 1 := hk
    by_cases h : k < us.length
    · obtain ⟨q, xs, e1, e2, e3, e4⟩ := hus k h
      have nqp : q ≠ p := fun z => by rw [z, npL] at e3; cases e3
      exact ⟨q, xs, by rw [List.getElem?_append_left h]; exact e1, e2, by rw [join_out (L := oneH p ws) (by unfold oneH; rw [upd_ne nqp])]; exact e3, e4⟩
    · have e : k = us.length := by omega
      subst e
      exact ⟨p, ws, by rw [List.getElem?_append_right (Nat.le_refl _), Nat.sub_self]; rfl, npD, join_in upd_same, by rw [DpAll.len pd]; exact hdn⟩
  · have off : ∀ a, a ≠ p → oneH p ws a = none := fun a h => by unfold oneH; rw [upd_ne h]
    have jfp : ∀ a, joinH (oneH p ws) L a ≠ none → a = p ∨ L a ≠ none := fun a h => by
      by_cases e : a = p
      · exact .inl e
      · rw [join_out (off a e)] at h; exact .inr h
    have nB : ∀ a u, W4.B a = some u → a ≠ D := fun a u e z => by rw [z, (E4.sep D (.inl (.inl rfl))).1] at e; cases e
    refine ⟨fun a u e => ?_, ⟨E4.st.b, fun a u e => ?_, fun a u e m => ?_, E4.st.n, fun a e => Nt.upd (fun ps z => by cases z) (E4.st.l a e), fun a q e => code_up eD (E4.st.c a q e), E4.st.t⟩, E4.len, fun i r h => ?_, E4.ds, ⟨⟨upd_same, fun a o e => ?_, ?_, ?_⟩, ?_, fun x hx1 hx2 => ?_⟩, fun a ha => ?_, fun i q r h1 h2 h3 z => ?_, E4.nob, E4.nt⟩
    · show upd _ _ _ _ = _
      rw [upd_ne (nB a u e)]; exact E4.ok a u e
    · show upd _ _ _ _ = _
      rw [upd_ne (nB a u e)]; exact E4.ok a u e
    · show upd _ _ _ _ = _
      have ne : a ≠ D := fun z => by
        subst z
        have := E0.live (Nt.not hD)
        exact this ⟨u, e, fun ps z => by
          have e2 := E4.st.k a u e m
          rw [eD] at e2
          rw [← Option.some.inj e2] at z
          cases z⟩
      rw [upd_ne ne]; exact E4.st.k a u e m
    · have z := E4.sl i r h
      cases r with
      | un => exact True.intro
      | bor ds => exact absurd h (E4.nob i ds)
      | own ds =>
        obtain ⟨v', e1, p', us', e2, g0, gB, gH, gd⟩ := z
        have ne : p' ≠ D := fun z => E4.nof i p' _ h rfl (by rw [e1, e2]) (.inl (.inl z))
        exact ⟨v', e1, p', us', e2, g0, gB, by show upd _ _ _ _ = _; rw [upd_ne ne]; exact gH, gd⟩
      | _ => exact z
    · by_cases h : a = p
      · subst h
        rw [join_in (L := oneH a ws) upd_same] at e
        show upd _ _ _ _ = _
        rw [upd_ne npD, pH]; exact e
      · rw [join_out (off a h)] at e
        have ne : a ≠ D := fun z => by rw [z, nD] at e; cases e
        show upd _ _ _ _ = _
        rw [upd_ne ne]; exact sL a o e
    · rw [join_out (off D (Ne.symm npD))]; exact nD
    · have sm : Same (joinH L W4.B) (joinH (joinH (oneH p ws) L) W4.B) := fun a o e => by
        by_cases h : a = p
        · subst h
          rw [join_out npL, pB] at e; cases e
        · cases q : L a with
          | some u =>
            rw [join_in q] at e
            exact join_in (by rw [join_out (off a h), q]; exact e)
          | none =>
            rw [join_out q] at e
            rw [join_out (by rw [join_out (off a h)]; exact q)]; exact e
      have sB : Same W4.B (joinH (joinH (oneH p ws) L) W4.B) := fun a o e => sm a o (by
        cases q : L a with
        | some u => rw [(E4.sep a (.inl (.inr (by rw [q]; exact Option.some_ne_none _)))).1] at e; cases e
        | none => rw [join_out q]; exact e)
      refine DpAll.app (DpAll.up sm hd) (.cons (.lst (SqL.of (join_in (join_in upd_same))) (DpAll.up sB pd)) .nil)
    · refine J.mono _ _ _ _ (Same.refl _) (fun a u fa e => ?_) (fun a q e => code_up eD e) (fun T t => tabs_upd eD (fun ps z => by cases z) (fun q z => code_ne z.symm) t) rJ
      show upd _ _ _ _ = _
      rw [upd_ne (fun z => dj a (.inl z) fa)]; exact e
    · rcases hx1 with z | z
      · exact dj x (.inl z) hx2
      · rcases jfp x z with z | z
        · exact npJ (by rw [← z]; exact hx2)
        · exact dj x (.inr z) hx2
    · rcases ha with (z | z) | z
      · have q := E4.sep a (.inl (.inl z))
        exact ⟨q.1, Nt.upd (fun ps z => by cases z) q.2.1, q.2.2⟩
      · rcases jfp a z with z | z
        · subst z
          exact ⟨pB, Nt.upd (fun ps z => by cases z) (Nt.lst pH), .inr h0⟩
        · have q := E4.sep a (.inl (.inr z))
          exact ⟨q.1, Nt.upd (fun ps z => by cases z) q.2.1, q.2.2⟩
      · have q := E4.sep a (.inr z)
        exact ⟨q.1, Nt.upd (fun ps z => by cases z) q.2.1, q.2.2⟩
    · rcases z with (z | z) | z
      · exact E4.nof i q r h1 h2 h3 (.inl (.inl z))
      · rcases jfp q z with z | z
        · subst z
          rw [← hw2] at h1
          rw [← w2] at h3
          exact o4.2.2 rfl q rfl i r (wipeS_own vs h1 h2) h2 (wipe_at vs h3)
        · exact E4.nof i q r h1 h2 h3 (.inl (.inr z))
      · exact E4.nof i q r h1 h2 h3 (.inr z)
theorem lni_done {R : Sl → Res → Prop} {Q : VK} {σ : St} {W1 : Wd} {D : Addr} {n : Nat} {Iv : List PyData → Prop} {H : Hp} (E : EnvA A J W1 σ ρ) (hw : wipeS ρ vs = ρ) (hD : W1.H D = none) (h : LnI A ρ J σ vs n D W1 Iv H)
    (hr : ∀ acc L us, Iv acc → NestOk L D us n → us.length = acc.length → R (.raw (.ref D)) ((Res.tmp A.X.K L (.ref D) (.list acc)).star J)) (k : Wkj A ρ R W1 σ Q) : Q (.ref D) H := by
  obtain ⟨W', L, us, acc, rfl, s1, iv, hL, hus, E1⟩ := h
  have Ew := E.up s1
  obtain ⟨⟨eD, sL, nD, hd⟩, rJ, dj⟩ := E1.res
  have jfp : ∀ a, upd L D (.lst us) a ≠ none → a = D ∨ L a ≠ none := fun a h => by
    by_cases e : a = D
    · exact .inl e
    · rw [upd_ne e] at h; exact .inr h
  have ok : NestOk (upd L D (.lst us)) D us n := ⟨upd_same, fun k hk => by
    obtain ⟨q, xs, e1, e2, e3, e4⟩ := hus k hk
    exact ⟨q, xs, e1, e2, by rw [upd_ne e2]; exact e3, e4⟩, fun a o e => by
    by_cases h : a = D
    · subst h; rw [upd_same] at e; exact ⟨us, (Option.some.inj e).symm⟩
    · rw [upd_ne h] at e; exact hL a o e⟩
  refine k _ _ (.ref D) W' (hr acc _ us iv ok (DpAll.len hd)) s1.b ⟨Ew.ok, Ew.st, Ew.len, Ew.sl, Ew.ds, ⟨⟨fun a o e => ?_, ?_⟩, rJ, fun x x1 x2 => ?_⟩, fun a ha => ?_, fun i q r h1 h2 h3 z => ?_, Ew.nob, Ew.nt⟩ (RtOk.of rfl)
  · by_cases h : a = D
    · subst h; rw [upd_same] at e; rw [eD]; exact e
    · rw [upd_ne h] at e; exact sL a o e
  · have bD := (E1.sep D (.inl (.inl rfl))).1
    refine .lst (SqL.of (join_in upd_same)) (DpAll.up (fun a o e => ?_) hd)
    have ne : a ≠ D := fun z => by rw [z, join_out nD, bD] at e; cases e
    cases q : L a with
    | some u =>
      rw [join_in q] at e
      exact join_in (by rw [upd_ne ne, q]; exact e)
    | none =>
      rw [join_out q] at e
      rw [join_out (by rw [upd_ne ne]; exact q)]; exact e
  · rcases jfp x x1 with z | z
    · exact dj x (.inl z) x2
    · exact dj x (.inr z) x2
  · rcases ha with z | z
    · rcases jfp a z with z | z
      · exact E1.sep a (.inl (.inl z))
      · exact E1.sep a (.inl (.inr z))
    · exact E1.sep a (.inr z)
  · have h1' : (wipeS ρ vs)[i]? = some r := by rw [hw]; exact h1
    have h3' : at_ (L2.wipe σ vs) i = some (.ref q) := by
      have sl := E1.sl i r h1'
      cases r with
      | own ds =>
        obtain ⟨v, e1, _⟩ := sl
        have e2 := wipe_at vs e1
        rw [h3] at e2
        rw [e1, ← Option.some.inj e2]
      | _ => cases h2
    rcases z with z | z
    · rcases jfp q z with z | z
      · exact E1.nof i q r h1' h2 h3' (.inl (.inl z))
      · exact E1.nof i q r h1' h2 h3' (.inl (.inr z))
    · exact E1.nof i q r h1' h2 h3' (.inr z)
/-- [elt for tg in iter] over a list, elt a new list of n items -/
theorem wj_lcN {R : Sl → Res → Prop} {elt tg iter : Expr} {scope : Scope} (own : List (Str × Nat)) (n : Nat) (hc : A.X.calm = true) (hN : A.X.N.Nodup)
    (h : We A iter ρ J fun r => ∃ ds, dOf r = some (.list ds) ∧ isOwn r = false ∧ ∃ Iv : Nat → List PyData → Prop, Iv 0 [] ∧ (∀ i d acc, ds[i]? = some d → Iv i acc → TurnN A scope (own.map (·.2)) n tg elt ρ J (.dat d) acc (Iv (i + 1))) ∧
      ∀ acc L D us, Iv ds.length acc → NestOk L D us n → us.length = acc.length → R (.raw (.ref D)) ((Res.tmp A.X.K L (.ref D) (.list acc)).star J))
    (ok : BlkOk A.X.N A.X.env.scope scope own) (hw : wipeS ρ (own.map (·.2)) = ρ := by rfl) (hs : ∀ x, foldedSetIterable iter A.X.env x = pure x := by intro _; rfl) : Wj A (.ListComp elt [⟨tg, iter, [], 0⟩] scope pos) ρ J R := .mk fun W σ Q E X k => by
  refine e_at (pe_lc (g := gB A.X scope tg) (tt := tTs A.X scope []) (te := eB A.X scope elt) hc hN (pi_list pe_sem) ok (fun s H C cl fp => ⟨fun pins s' σ H' v u Q I r h => h s H C cl fp pins s' u I r⟩) (pts_sem (by decide)) (fun s H C cl fp => ⟨fun pins s' σ H' Q I h => h s H C cl fp pins s' I⟩) hs) ?_
  refine h W σ _ E X fun r v W1 h1 s1 o1 => ?_
  obtain ⟨ds, hd, hno, Iv, i0, step, fin⟩ := h1
  have E1 := E.up s1
  obtain ⟨a, xs, rfl, q1, p1⟩ := o1.lst hd E1.ok
  have hlen := DpAll.len p1
  refine ⟨a, rfl, ⟨xs, q1⟩, fun D hD => lc_list (K := A.X.K) (a := a) (xs := xs) (fun i H => LnI A ρ J σ (own.map (·.2)) n D W1 (Iv i) H) (lni_start E1 hD i0) (fun i H _ hi => ?_) (fun i x H hx hi => ?_) (fun H hi => ?_)⟩
  · obtain ⟨W', L, us, acc, rfl, s2, _⟩ := hi
    exact s2.same.seq q1
  · obtain ⟨d, hdd, q⟩ := DpAll.at' p1 hx
    exact lni_turn (r := .dat d) E1 hD hi (fun W' s2 => Dp.up s2.b q) rfl (fun acc iv => step i d acc hdd iv)
  · rw [hlen] at hi
    exact lni_done E1 hw hD hi (fun acc L us iv ok hl => fin acc L D us iv ok hl) (k.from s1.b)
theorem NestOk.set {L : Hp} {D : Addr} {us : List V} {n : Nat} (h : NestOk L D us n) {q : Addr} {xs : List V} {j : Nat} (hq : L q = some (.lst xs)) (hn : q ≠ D) (v : V) : NestOk (upd L q (.lst (xs.set j v))) D us n := by
  refine ⟨by rw [upd_ne (Ne.symm hn)]; exact h.top, fun k hk => ?_, fun a o e => ?_⟩
  · obtain ⟨q', ys, e1, e2, e3, e4⟩ := h.at_ k hk
    by_cases e : q' = q
    · subst e
      rw [hq] at e3
      have e5 : xs = ys := by
        have := Option.some.inj e3
        injection this
      exact ⟨q', xs.set j v, e1, e2, upd_same, by rw [List.length_set, e5]; exact e4⟩
    · exact ⟨q', ys, e1, e2, by rw [upd_ne e]; exact e3, e4⟩
  · by_cases h2 : a = q
    · subst h2; rw [upd_same] at e; exact ⟨_, (Option.some.inj e).symm⟩
    · rw [upd_ne h2] at e; exact h.lists a o e
theorem cd_lstTF {R : Sl → Prop} {ds : List PyData} (h : R (dL ds)) : Cd A (.type "list") ρ J [dT ds] R := .mk fun W σ vs Q E o k => by
  cases o with
  | cons o1 on =>
    cases on
    obtain ⟨a, xs, rfl, q1, q2, p1⟩ := o1.tup E.ok
    exact c_at call_list_of ⟨a, xs, rfl, .inr q1, k.newLF E p1 h⟩
/-- .. over range(e), the new list lasting at once -/
theorem lci_doneF {R : Sl → Prop} {Q : VK} {σ : St} {W1 : Wd} {D : Addr} {Iv : List PyData → Prop} {H : Hp} (E : EnvA A J W1 σ ρ) (hD : W1.H D = none) (h : LcI A ρ J σ vs D W1 Iv H) (hr : ∀ acc, Iv acc → R (dL acc)) (k : Wk A ρ J R W1 σ Q) : Q (.ref D) H := by
  obtain ⟨W', acc, rfl, s1, iv, E1⟩ := h
  obtain ⟨us, eD, hd⟩ := E1.res.1
  have bD := (E1.sep D (.inl rfl)).1
  obtain ⟨t1, t2⟩ := frz_ok (o := .lst us) E1.ok bD eD
  have st : Stp0 W1 ⟨upd W'.B D (.lst us), W'.H⟩ := by
    refine ⟨s1.b.trans t1, t2, s1.k, fun a e => ?_, s1.l, s1.c, fun z a ps e => upd_nt (fun ps z => by cases z) (s1.t z) a ps e⟩
    by_cases ha : a = D
    · subst ha; exact .inr (Nt.not hD)
    · have e' : upd W'.B D (.lst us) a ≠ none := e
      rw [upd_ne ha] at e'
      exact s1.n a e'
  exact k (dL acc) (.ref D) ⟨upd W'.B D (.lst us), W'.H⟩ (hr acc iv) st (RtA.dat (.lst (SqL.of upd_same) (DpAll.up t1 hd)))
theorem lc_RF {R : Sl → Prop} {elt tg e : Expr} {ifs : List Expr} {scope : Scope} {p rpos : Pos} (own : List (Str × Nat)) (hm : A.X.mg "range" = none)
    (h : We A e ρ J fun r => ∃ n : Int, r = dI n ∧ n ≤ 1000000000 ∧ -1000000000 ≤ n ∧ ∃ Iv : Nat → List PyData → Prop, Iv 0 [] ∧ (∀ (i : Nat) acc, i < n.toNat → Iv i acc → Turn A scope (own.map (·.2)) tg elt ifs ρ J (dI i) acc (Iv (i + 1))) ∧ ∀ acc, Iv n.toNat acc → R (dL acc)) (hl : ifs.length ≤ 1 := by decide)
    (hg : Gl A.X "range" := by rfl) (hs : starEach [e] A.X.env = [(false, eval e A.X.env)] := by rfl) (hs2 : starEach [e] A.X.env = (false, eval e A.X.env) :: starEach [] A.X.env := by rfl) : Lc A elt tg (.Call (.Name "range" p) [e] [] rpos) ifs scope own ρ J R := by
  refine ⟨_, (pi_range1 hg hm (pa_cons pe_sem pa_nil hs2) hs), fun W σ Q E X k => ?_⟩
  show tE A.X e σ W.H fun y H1 => ∃ j : Int, [y] = [V.int j] ∧ -(2 ^ 62) ≤ j ∧ j < 2 ^ 62 ∧ _
  refine h W σ _ E X fun r v W1 h1 s1 o1 => ?_
  obtain ⟨n, rfl, b1, b2, Iv, i0, step, fin⟩ := h1
  have E1 := E.up s1
  refine ⟨n, by rw [dp_int o1.1], by omega, by omega, fun D hD => lc_range (lo := 0) (n := n.toNat) (fun i H => LcI A ρ J σ (own.map (·.2)) D W1 (Iv i) H) (lci_start E1 hD i0) (fun i H hn hi => ?_) (fun H hi => ?_)⟩
  · have e0 : (0 : Int) + (i : Int) = (i : Int) := Int.zero_add _
    rw [e0]
    exact lci_turn (r := dI i) E1 hD hi (fun W' s2 => (.int _ : Dp A.X.K W'.B (.int i) (.int i))) rfl (fun acc iv => step i acc hn iv) hl
  · exact lci_doneF E1 hD hi fin (k.from s1)
end
end DL

namespace KK
open PySem PySem.Spec PyProof.Rows L2 DL
structure Tx (P : Program) (K : PySem.W.Frag) (mg : Str → Option Value) : Prop where
  fns : ∀ d ∈ fn, ∃ fd, FunD K d.name d.qual d.params d.body d.scope (d.dvs K) (d.kws K) (He.fAd K d.at_) fd
  fas : ∀ f ∈ fa, f.ok K = true
  hp : ∃ h : Heap, K.In h ∧ h.Ns mainGlobals mg
  stand : ∃ (p g : Addr) (fd : FuncData), PropOf K (He.ga K "House") "standing" p g ∧ FunD K dStd.name dStd.qual dStd.params dStd.body dStd.scope [] [] g fd
  wds : ∃ a, mg "WORDS" = some (.ref a) ∧ ∀ B, SqT K B a [.str ">=", .str ">", .str "!>="]
  exc : ∀ t ∈ ([("TooMany", "limit"), ("BadAct", "place"), ("BadChoice", "place"), ("NoEntry", "key"), ("NoMind", "name")] : List (Str × Str)), ∃ fI, XTxt P K mg t.1 (He.ga K t.1) fI t.2
section
variable {P : Program} {w : World} {K : PySem.W.Frag} {mg : Str → Option Value} {base : Heap}
theorem Tx.glo (T : Tx P K mg) {x : Str} (h : He.Fa.glo x ∈ fa := by unfold fa; repeat (first | with_reducible exact List.Mem.head _ | apply List.Mem.tail)) : mg x = some (.ref (He.ga K x)) := by
  obtain ⟨hh, X, G⟩ := T.hp
  exact He.glo_ok X G (T.fas _ h)
theorem Tx.free (T : Tx P K mg) {x : Str} (h : He.Fa.free x ∈ fa := by unfold fa; repeat (first | with_reducible exact List.Mem.head _ | apply List.Mem.tail)) : mg x = none := by
  obtain ⟨hh, X, G⟩ := T.hp
  exact He.free_ok X G (T.fas _ h)
theorem Tx.int (T : Tx P K mg) {x : Str} {i : Int} (h : He.Fa.int x i ∈ fa := by unfold fa; repeat (first | with_reducible exact List.Mem.head _ | apply List.Mem.tail)) : ∃ u, mg x = some u ∧ RelV (.int i) u := by
  obtain ⟨hh, X, G⟩ := T.hp
  obtain ⟨t, e⟩ := He.int_ok X G (T.fas _ h)
  exact ⟨_, e, ⟨t, rfl⟩⟩
theorem Tx.cls (T : Tx P K mg) {x : Str} (h : He.Fa.cls x ∈ fa := by unfold fa; repeat (first | with_reducible exact List.Mem.head _ | apply List.Mem.tail)) : Cls K (He.ga K x) := He.cls_ok (T.fas _ h)
theorem Tx.noat (T : Tx P K mg) {x f : Str} (h : He.Fa.noat x f ∈ fa := by unfold fa; repeat (first | with_reducible exact List.Mem.head _ | apply List.Mem.tail)) : NoAttr K (He.ga K x) f := He.noat_ok (T.fas _ h)
theorem Tx.meth (T : Tx P K mg) {x m : Str} (h : He.Fa.meth x m ∈ fa := by unfold fa; repeat (first | with_reducible exact List.Mem.head _ | apply List.Mem.tail)) : Meth K (He.ga K x) m (He.ma K (He.ga K x) m) := He.meth_ok (T.fas _ h)
theorem Tx.mkr (T : Tx P K mg) {x : Str} (h : He.Fa.mkr x ∈ fa := by unfold fa; repeat (first | with_reducible exact List.Mem.head _ | apply List.Mem.tail)) : Mk K (He.ga K x) (He.ma K (He.ga K x) "__init__") := He.mkr_ok (T.fas _ h)
theorem Tx.f_len (T : Tx P K mg) : mg "len" = none := T.free
theorem Tx.f_range (T : Tx P K mg) : mg "range" = none := T.free
theorem Tx.f_max (T : Tx P K mg) : mg "max" = none := T.free
theorem Tx.f_min (T : Tx P K mg) : mg "min" = none := T.free
theorem Tx.f_int (T : Tx P K mg) : mg "int" = none := T.free
theorem Tx.f_tuple (T : Tx P K mg) : mg "tuple" = none := T.free
theorem Tx.f_list (T : Tx P K mg) : mg "list" = none := T.free
theorem Tx.f_isinstance (T : Tx P K mg) : mg "isinstance" = none := T.free
theorem Tx.f_bool (T : Tx P K mg) : mg "bool" = none := T.free
theorem Tx.f_str (T : Tx P K mg) : mg "str" = none := T.free
theorem Tx.i_MOST_STATES (T : Tx P K mg) : ∃ u, mg "MOST_STATES" = some u ∧ RelV (.int 4) u := T.int
theorem Tx.i_MOST_ACTS (T : Tx P K mg) : ∃ u, mg "MOST_ACTS" = some u ∧ RelV (.int 5) u := T.int
theorem Tx.i_MOST_SEEN (T : Tx P K mg) : ∃ u, mg "MOST_SEEN" = some u ∧ RelV (.int 8) u := T.int
theorem Tx.i_MOST_WORTH (T : Tx P K mg) : ∃ u, mg "MOST_WORTH" = some u ∧ RelV (.int 99) u := T.int
theorem Tx.i_MOST_ENTRIES (T : Tx P K mg) : ∃ u, mg "MOST_ENTRIES" = some u ∧ RelV (.int 24) u := T.int
theorem binds_of {x qual : Str} {params : Arguments} {body : List Stmt} {scope : Scope} {f : Addr} {fd : FuncData} {ps : List Str} (F : FunD K x qual params body scope [] [] f fd)
    (h : ∀ (kV doc pm cdv ct : Value) (an : Option Addr) (us : List Value), us.length = ps.length → bindArgs (PySem.W.fnOf x qual params body scope .none kV doc pm an cdv ct) ⟨us, []⟩ = pure (ps.zip us)) : L2.Binds K fd ps [] := by
  obtain ⟨oc, od, dV, kV, doc, pm, an, cdv, ct, osl, rfl, lk, hcd, hD, _⟩ := F.ex
  rcases hD with ⟨_, e⟩ | ⟨e, _⟩
  · subst e
    exact Binds.all fun us hl => h kV doc pm cdv ct an us hl
  · exact absurd rfl e
/-- a def of the top, from its body -/
abbrev Body (P : Program) (w : World) (K : PySem.W.Frag) (mg : Str → Option Value) (base : Heap) {α : Type} (d : He.DefD) (N : List Str) (S : Spec α) (k : Nat) : Prop :=
  ∀ (a : α) (cdv : Value) (A0 : Around) (outer : List PySem.Env) (s : Shared) (W0 : Wd) (E : XK), Room k (A0.deeper (envOfC d.qual d.scope s.heap.objs.size (He.fAd K d.at_) cdv)) → S.pre a →
      Wss (actOf P w K mg base N d.qual d.scope (He.fAd K d.at_) cdv A0 outer s (S.md a) W0 E (S.ex a)) d.body (S.args a ++ unN (N.length - (S.args a).length)) (S.J a) (fun _ J' => S.rt a dN J') (S.rt a) (fun _ _ => False) (fun _ _ => False)
abbrev BindsD (d : He.DefD) (ps : List Str) : Prop := ∀ (kV doc pm cdv ct : Value) (an : Option Addr) (us : List Value), us.length = ps.length → bindArgs (PySem.W.fnOf d.name d.qual d.params d.body d.scope .none kV doc pm an cdv ct) ⟨us, []⟩ = pure (ps.zip us)
theorem fn_of {α : Type} {S : Spec α} (T : Tx P K mg) {d : He.DefD} {N ps : List Str} {k : Nat} (hd : d ∈ fn) (h1 : d.dfl = []) (h2 : d.kwd = []) (hS : FnScope N ps d.scope) (hl : ∀ a, (S.args a).length = ps.length) (hs : ∀ a, (S.args a).all isStb = true) (hN : ps.length ≤ N.length) (hb : Body P w K mg base d N S k) (hbi : BindsD d ps) :
    ∃ fd, FnOk P w K mg base (L2.CX P w) (k + 1) (He.fAd K d.at_) fd ps (S.sp K) ∧ L2.Binds K fd ps [] ∧ PySem.W.keepIn K (.ref (He.fAd K d.at_)) = true := by
  obtain ⟨fd, F⟩ := T.fns d hd
  have e1 : d.dvs K = [] := by unfold He.DefD.dvs; rw [h1]; rfl
  have e2 : d.kws K = [] := by unfold He.DefD.kws; rw [h2]; rfl
  rw [e1, e2] at F
  exact ⟨fd, DL.fn_ok S F hS hl hs hN hb, binds_of F hbi, F.kp⟩
theorem cal_of {α : Type} {S : Spec α} (T : Tx P K mg) {d : He.DefD} {x : Str} {N ps : List Str} {k : Nat} (hb : Body P w K mg base d N S k) (ha : d.at_ = (x, none)) (hg : mg x = some (.ref (He.ga K x))) (hd : d ∈ fn) (h1 : d.dfl = []) (h2 : d.kwd = []) (hS : FnScope N ps d.scope) (hl : ∀ a, (S.args a).length = ps.length) (hs : ∀ a, (S.args a).all isStb = true) (hN : ps.length ≤ N.length) (hbi : BindsD d ps) :
    Cal P w K mg base (k + 1) x (S.sp K) := by
  obtain ⟨fd, F, B, kp⟩ := fn_of T hd h1 h2 hS hl hs hN hb hbi
  have e : He.fAd K d.at_ = He.ga K x := by rw [ha]; rfl
  rw [e] at F kp
  exact ⟨_, fd, ps, F, hg, kp, B⟩
theorem met_of {α : Type} {S : Spec α} (T : Tx P K mg) {d : He.DefD} {x m : Str} {N ps : List Str} {k : Nat} (hb : Body P w K mg base d N S k) (ha : d.at_ = (x, some m)) (hc : Cls K (He.ga K x)) (hm : Meth K (He.ga K x) m (He.ma K (He.ga K x) m)) (hd : d ∈ fn) (h1 : d.dfl = []) (h2 : d.kwd = []) (hS : FnScope N ps d.scope) (hl : ∀ a, (S.args a).length = ps.length) (hs : ∀ a, (S.args a).all isStb = true) (hN : ps.length ≤ N.length) (hbi : BindsD d ps) :
    Met P w K mg base (k + 1) (He.ga K x) m (S.sp K) := by
  obtain ⟨fd, F, B, kp⟩ := fn_of T hd h1 h2 hS hl hs hN hb hbi
  have e : He.fAd K d.at_ = He.ma K (He.ga K x) m := by rw [ha]; rfl
  rw [e] at F kp
  exact ⟨_, fd, ps, F, hc, hm, B⟩
theorem mak_of {α : Type} {S : Spec α} (T : Tx P K mg) {d : He.DefD} {x : Str} {N ps : List Str} {k : Nat} (hb : Body P w K mg base d N S k) (ha : d.at_ = (x, some ("__init__" : Str))) (hg : mg x = some (.ref (He.ga K x))) (hm : Mk K (He.ga K x) (He.ma K (He.ga K x) "__init__")) (hd : d ∈ fn) (h1 : d.dfl = []) (h2 : d.kwd = []) (hS : FnScope N ps d.scope) (hl : ∀ a, (S.args a).length = ps.length) (hs : ∀ a, (S.args a).all isStb = true) (hN : ps.length ≤ N.length) (hbi : BindsD d ps) :
    Mak P w K mg base (k + 1) x (He.ga K x) (S.sp K) := by
  obtain ⟨fd, F, B, kp⟩ := fn_of T hd h1 h2 hS hl hs hN hb hbi
  have e : He.fAd K d.at_ = He.ma K (He.ga K x) "__init__" := by rw [ha]; rfl
  rw [e] at F kp
  exact ⟨_, fd, ps, F, hm, hg, B⟩
end
end KK

namespace KK
open PySem PySem.Spec PyProof.Rows L2 DL
local macro_rules | `(tactic| walk_at "v") => `(tactic| first
  | refine we_varI ?_
  | refine we_varOI ?_
  | ((with_reducible refine (?_ : We _ (.Name "int" _) _ _ _)); refine we_ty (Tx.f_int (by assumption)) boot_int' ?_)
  | ((with_reducible refine (?_ : We _ (.Name "bool" _) _ _ _)); refine we_ty (Tx.f_bool (by assumption)) boot_bool' ?_)
  | ((with_reducible refine (?_ : We _ (.Name "str" _) _ _ _)); refine we_ty (Tx.f_str (by assumption)) boot_str' ?_)
  | ((with_reducible refine (?_ : We _ (.Name "tuple" _) _ _ _)); refine we_ty (Tx.f_tuple (by assumption)) boot_tuple' ?_)
  | ((with_reducible refine (?_ : We _ (.Name "list" _) _ _ _)); refine we_ty (Tx.f_list (by assumption)) boot_list' ?_)
  | refine we_glob (Tx.int (by assumption)) (fun _ => .int _) ?_)
local macro_rules | `(tactic| walk_at "b") => `(tactic| first
  | ((with_reducible refine (?_ : We _ (.Call (.Name "len" _) _ _ _) _ _ _)); refine we_callB (Tx.f_len (by assumption)) boot_len ?_; refine wa_cons ?_)
  | ((with_reducible refine (?_ : We _ (.Call (.Name "isinstance" _) _ _ _) _ _ _)); refine we_callB (Tx.f_isinstance (by assumption)) DL.boot_isinstance ?_; refine wa_cons ?_)
  | ((with_reducible refine (?_ : We _ (.Call (.Name "max" _) _ _ _) _ _ _)); refine we_callB (Tx.f_max (by assumption)) boot_max' ?_; refine wa_cons ?_)
  | ((with_reducible refine (?_ : We _ (.Call (.Name "min" _) _ _ _) _ _ _)); refine we_callB (Tx.f_min (by assumption)) boot_min' ?_; refine wa_cons ?_)
  | ((with_reducible refine (?_ : We _ (.Call (.Name "int" _) _ _ _) _ _ _)); refine we_callTy (Tx.f_int (by assumption)) boot_int' ?_; refine wa_cons ?_)
  | ((with_reducible refine (?_ : We _ (.Call (.Name "tuple" _) _ _ _) _ _ _)); refine we_callTy (Tx.f_tuple (by assumption)) boot_tuple' ?_; refine wa_cons ?_)
  | ((with_reducible refine (?_ : We _ (.Call (.Name "list" _) _ _ _) _ _ _)); refine we_callTy (Tx.f_list (by assumption)) boot_list' ?_; refine wa_cons ?_))
local macro_rules | `(tactic| walk_at "k") => `(tactic| first | refine we_int ?_ | refine we_str ?_ | refine we_bl ?_ | refine we_non ?_)
local macro_rules | `(tactic| walk_at "o+") => `(tactic| first | refine od_add ?_)
local macro_rules | `(tactic| walk_at "oe") => `(tactic| first | refine od_eqI ?_ | refine od_eqS ?_)
local macro_rules | `(tactic| walk_at "on") => `(tactic| first | refine od_neI ?_ | refine od_neS ?_)
local macro_rules | `(tactic| walk_at "c") => `(tactic| first | refine cd_int ?_ | refine cd_tup rfl ?_ | refine cd_tupT ?_ | refine cd_lst rfl ?_ | refine cd_lstT ?_)
local macro_rules | `(tactic| walk_at "w") => `(tactic| first
  | ((with_reducible refine (?_ : We _ (.Name _ _) _ _ _)); walk_at "v")
  | ((with_reducible refine (?_ : We _ (.Constant _ _ _) _ _ _)); walk_at "k")
  | ((with_reducible refine (?_ : We _ (.Subscript _ (.Slice _ _ _ _) _) _ _ _)); refine we_slice ?_)
  | ((with_reducible refine (?_ : We _ (.Subscript _ _ _) _ _ _)); refine we_ix (fun _ _ => rfl) ?_)
  | ((with_reducible refine (?_ : We _ (.Call _ _ _ _) _ _ _)); walk_at "b")
  | ((with_reducible refine (?_ : We _ (.BinOp _ _ _ _) _ _ _)); refine we_bin ?_)
  | ((with_reducible refine (?_ : We _ (.Compare _ _ _ _) _ _ _)); refine we_cmp rfl ?_)
  | ((with_reducible refine (?_ : We _ (.UnaryOp .USub _ _) _ _ _)); refine we_un ?_)
  | ((with_reducible refine (?_ : We _ (.Tuple _ _ _) _ _ _)); refine we_tup ?_)
  | ((with_reducible refine (?_ : We _ (.List _ _) _ _ _)); refine we_lst ?_)
  | ((with_reducible refine (?_ : Wa _ [] _ _ _)); refine wa_nil ?_)
  | ((with_reducible refine (?_ : Wa _ (_ :: _) _ _ _)); refine wa_cons ?_)
  | ((with_reducible refine (?_ : Wt _ (.Compare _ _ _ _) _ _ _)); refine wt_cmp rfl ?_)
  | ((with_reducible refine (?_ : Wt _ (.UnaryOp .Not _ _) _ _ _)); refine wt_not ?_)
  | ((with_reducible refine (?_ : Wt _ (.BoolOp _ _ _) _ _ _)); refine wt_bool ?_)
  | ((with_reducible refine (?_ : Ww _ (.BoolOp .And (_ :: _ :: _) _) _ _ _)); refine ww_and ?_)
  | ((with_reducible refine (?_ : Ww _ (.BoolOp .Or (_ :: _ :: _) _) _ _ _)); refine ww_or ?_)
  | ((with_reducible refine (?_ : Ww _ (.BoolOp .And _ _) _ _ _)); refine ww_and1 ?_)
  | ((with_reducible refine (?_ : Ww _ (.BoolOp .Or _ _) _ _ _)); refine ww_or1 ?_)
  | ((with_reducible refine (?_ : Wp _ none _ _ _)); refine wp_none ?_)
  | ((with_reducible refine (?_ : Wp _ (some _) _ _ _)); refine wp_some ?_)
  | ((with_reducible refine (?_ : Od _ (binaryOp .Add) _ _ _ _ _)); refine od_add ?_)
  | ((with_reducible refine (?_ : Od _ (binaryOp .Sub) _ _ _ _ _)); refine od_sub ?_)
  | ((with_reducible refine (?_ : Od _ (binaryOp .Mult) _ _ _ _ _)); refine od_mul ?_)
  | ((with_reducible refine (?_ : Od _ (binaryOp .FloorDiv) _ _ _ _ _)); refine od_fdiv ?_)
  | ((with_reducible refine (?_ : Od _ (binaryOp .Mod) _ _ _ _ _)); refine od_mod ?_)
  | ((with_reducible refine (?_ : Od _ (compareOp .Eq) _ _ _ _ _)); walk_at "oe")
  | ((with_reducible refine (?_ : Od _ (compareOp .NotEq) _ _ _ _ _)); walk_at "on")
  | ((with_reducible refine (?_ : Od _ (compareOp .Lt) _ _ _ _ _)); refine od_lt ?_)
  | ((with_reducible refine (?_ : Od _ (compareOp .LtE) _ _ _ _ _)); refine od_le ?_)
  | ((with_reducible refine (?_ : Od _ (compareOp .Gt) _ _ _ _ _)); refine od_gt ?_)
  | ((with_reducible refine (?_ : Od _ (compareOp .GtE) _ _ _ _ _)); refine od_ge ?_)
  | ((with_reducible refine (?_ : Od _ (compareOp .Is) _ _ _ _ _)); refine od_isN ?_)
  | ((with_reducible refine (?_ : Od _ (compareOp .IsNot) _ _ _ _ _)); refine od_isnotN ?_)
  | ((with_reducible refine (?_ : Ud _ _ _ _ _ _)); refine ud_neg ?_)
  | ((with_reducible refine (?_ : Cd _ (.type _) _ _ _ _)); walk_at "c")
  | ((with_reducible refine (?_ : Id _ _ _ (.dat (.tuple _)) _ _)); refine id_tup (by rfl) ?_)
  | ((with_reducible refine (?_ : ∃ k, Sl.dat (PyData.bool _) = Sl.dat (PyData.bool k) ∧ _)); refine ⟨_, rfl, ?_⟩)
  | ((with_reducible refine (?_ : ∃ i, Sl.dat (PyData.int _) = Sl.dat (PyData.int i) ∧ _)); refine ⟨_, rfl, ?_⟩)
  | ((with_reducible refine (?_ : ∃ ds, datsOf _ = some ds ∧ _ ∧ _)); refine ⟨_, rfl, Nat.le_of_ble_eq_true rfl, ?_⟩)
  | ((with_reducible refine (?_ : Id _ _ _ (.dat _) _ _)); refine id_tup (by rfl) ?_))
section
variable {P : Program} {w : World} {K : PySem.W.Frag} {mg : Str → Option Value} {base : Heap}
/-! ### _law_place -/
abbrev nPlace : List Str := ["rows", "key", "place"]
def rowsD (rows : List (Int × PyData)) : PyData := .list (rows.map fun q => .tuple [.int q.1, q.2])
def sPlace : Spec (List (Int × Str × PyData) × Int) where
  args := fun a => [dL (a.1.map fun q => .tuple [.int q.1, .str q.2.1, q.2.2]), dI a.2]
  pre := fun a => a.1.length ≤ 1000
  rt := fun a r J => J = .emp ∧ r = dI (match a.1.findIdx? (fun q => decide (q.1 = a.2)) with | some i => (i : Int) | none => -1)
theorem fs_place : FnScope nPlace ["rows", "key"] dPlace.scope := ⟨rfl, rfl, rfl, by decide +kernel, rfl, by decide +kernel, by decide +kernel⟩
theorem b_place (T : Tx P K mg) : Body P w K mg base dPlace nPlace sPlace 0 := by
  rintro ⟨rows, key⟩ cdv A0 outer s W0 E hr hp
  have hp' : rows.length ≤ 1000 := hp
  have nd := fs_place.nd
  refine wss_cons ?_
  refine ws_forR (passes_of rfl) rfl T.free ?_
  walk_at "w"
  walk_at "w"
  walk_at "w"
  refine cd_len (d := .list (rows.map fun q => .tuple [.int q.1, .str q.2.1, q.2.2])) rfl rfl (by rw [List.length_map]; omega) ?_
  rw [List.length_map]
  refine ⟨_, rfl, by omega, by omega, fun k ρ' J' => (∀ j, j < k → ∀ q, rows[j]? = some q → q.1 ≠ key) ∧ J' = .emp ∧ ∃ r, ρ' = [dL (rows.map fun q => .tuple [.int q.1, .str q.2.1, q.2.2]), dI key, r], ⟨fun j h => absurd h (Nat.not_lt_zero j), rfl, _, rfl⟩, ?_, ?_⟩
  · rintro k ρ' J' hk ⟨hn, rfl, r, rfl⟩
    have hk' : k < rows.length := by simpa using hk
    obtain ⟨q, hq⟩ : ∃ q, rows[k]? = some q := ⟨rows[k], List.getElem?_eq_getElem hk'⟩
    refine wg_name 2 ?_ nd
    refine wss_cons (ws_if ?_)
    repeat walk_at "w"
    refine id_lst (d := .tuple [.int q.1, .str q.2.1, q.2.2]) rfl (atI_nat (by rw [List.getElem?_map, hq]; rfl)) ?_
    repeat walk_at "w"
    by_cases c : q.1 = key
    · rw [decide_eq_true c]
      refine iteT (wss_cons (ws_ret ?_))
      repeat walk_at "w"
      refine ⟨rfl, ?_⟩
      have e : rows.findIdx? (fun q => decide (q.1 = key)) = some k := by
        rw [List.findIdx?_eq_some_iff_getElem]
        refine ⟨hk', ?_, fun j hj => ?_⟩
        · rw [List.getElem?_eq_getElem hk'] at hq
          cases hq
          exact decide_eq_true c
        · have := hn j hj rows[j] (List.getElem?_eq_getElem (by omega))
          simpa using this
      show _ = dI _
      rw [e]
      rfl
    · rw [decide_eq_false c]
      refine iteF (wss_nil (wss_nil ⟨fun j hj q' hq' => ?_, rfl, _, rfl⟩))
      rcases Nat.lt_succ_iff_lt_or_eq.mp hj with h | h
      · exact hn j h q' hq'
      · subst h
        rw [hq] at hq'
        cases hq'
        exact c
  · rintro ρ' J' ⟨hn, rfl, r, rfl⟩
    refine wss_cons (ws_ret ?_)
    repeat walk_at "w"
    refine ⟨rfl, ?_⟩
    have e : rows.findIdx? (fun q => decide (q.1 = key)) = none := by
      rw [List.findIdx?_eq_none_iff]
      intro q hq
      obtain ⟨j, hj, e⟩ := List.mem_iff_getElem.mp hq
      have := hn j (by simpa using hj) q (by rw [List.getElem?_eq_getElem hj, e])
      simpa using this
    show _ = dI _
    rw [e]
    rfl
theorem c_place (T : Tx P K mg) : Cal P w K mg base 1 "_law_place" (sPlace.sp K) :=
  cal_of T (b_place T) rfl T.glo (by unfold fn; repeat (first | with_reducible exact List.Mem.head _ | apply List.Mem.tail)) rfl rfl fs_place (fun _ => rfl) (fun _ => rfl) (by decide) (fun _ _ _ _ _ _ us h => match us, h with | [_, _], _ => rfl)
end
end KK

namespace KK
open PySem PySem.Spec PyProof.Rows L2 DL
/-! ### plain: choices, rows, books -/
structure Ch where
  l : Int
  w : Str
  r : Int
deriving DecidableEq
def words : List Str := [">=", ">", "!>="]
def good (c : Ch) (many : Int) : Bool := decide (c.w ∈ words) && (decide (c.l ≠ c.r) && (decide (0 ≤ min c.l c.r) && decide (max c.l c.r < many)))
def chL (c : Ch) : List PyData := [.int c.l, .str c.w, .int c.r]
/-- a choice as a tuple, or as a list -/
def sq (b : Bool) (ds : List PyData) : PyData := if b then .list ds else .tuple ds
abbrev chB (b : Bool) (c : Ch) : PyData := sq b (chL c)
def chD (c : Ch) : PyData := .tuple (chL c)
/-- each once, at its first place -/
def put1 {α : Type} [DecidableEq α] (acc : List α) (x : α) : List α := if x ∈ acc then acc else acc ++ [x]
def dedup {α : Type} [DecidableEq α] (xs : List α) : List α := xs.foldl put1 []
/-- the first place of a wrong choice -/
def bad? (cs : List Ch) (many : Int) : Option Nat := cs.findIdx? fun c => !good c many
theorem eqv_str (a b : Str) : PyData.eqv (.str a) (.str b) = decide (a = b) := by
  simp only [PyData.eqv]
  rw [Bool.eq_iff_iff]
  simp
theorem eqv_int (a b : Int) : PyData.eqv (.int a) (.int b) = decide (a = b) := by
  simp only [PyData.eqv]
  rw [Bool.eq_iff_iff]
  simp
theorem eqv_ch (a b : Ch) : PyData.eqv (chD a) (chD b) = decide (a = b) := by
  obtain ⟨l, w, r⟩ := a
  obtain ⟨l', w', r'⟩ := b
  rw [Bool.eq_iff_iff]
  simp [chD, chL, PyData.eqv, PyData.eqvAll, Ch.mk.injEq]
theorem words_any (w : Str) : (([PyData.str ">=", .str ">", .str "!>="]).any fun z => PyData.eqv z (.str w)) = decide (w ∈ words) := by
  simp only [List.any_cons, List.any_nil, eqv_str, Bool.or_false, words]
  rw [Bool.eq_iff_iff]
  simp only [Bool.or_eq_true, decide_eq_true_eq, List.mem_cons, List.not_mem_nil, or_false]
  constructor <;> (intro h; rcases h with h | h | h <;> simp [h])
end KK

namespace KK
open PySem PySem.Spec PyProof.Rows L2 DL
local macro_rules | `(tactic| walk_at "v") => `(tactic| first
  | refine we_varI ?_
  | refine we_varOI ?_
  | ((with_reducible refine (?_ : We _ (.Name "int" _) _ _ _)); refine we_ty (Tx.f_int (by assumption)) boot_int' ?_)
  | ((with_reducible refine (?_ : We _ (.Name "bool" _) _ _ _)); refine we_ty (Tx.f_bool (by assumption)) boot_bool' ?_)
  | ((with_reducible refine (?_ : We _ (.Name "str" _) _ _ _)); refine we_ty (Tx.f_str (by assumption)) boot_str' ?_)
  | ((with_reducible refine (?_ : We _ (.Name "tuple" _) _ _ _)); refine we_ty (Tx.f_tuple (by assumption)) boot_tuple' ?_)
  | ((with_reducible refine (?_ : We _ (.Name "list" _) _ _ _)); refine we_ty (Tx.f_list (by assumption)) boot_list' ?_)
  | refine we_glob (Tx.int (by assumption)) (fun _ => .int _) ?_)
local macro_rules | `(tactic| walk_at "b") => `(tactic| first
  | ((with_reducible refine (?_ : We _ (.Call (.Name "len" _) _ _ _) _ _ _)); refine we_callB (Tx.f_len (by assumption)) boot_len ?_; refine wa_cons ?_)
  | ((with_reducible refine (?_ : We _ (.Call (.Name "isinstance" _) _ _ _) _ _ _)); refine we_callB (Tx.f_isinstance (by assumption)) DL.boot_isinstance ?_; refine wa_cons ?_)
  | ((with_reducible refine (?_ : We _ (.Call (.Name "max" _) _ _ _) _ _ _)); refine we_callB (Tx.f_max (by assumption)) boot_max' ?_; refine wa_cons ?_)
  | ((with_reducible refine (?_ : We _ (.Call (.Name "min" _) _ _ _) _ _ _)); refine we_callB (Tx.f_min (by assumption)) boot_min' ?_; refine wa_cons ?_)
  | ((with_reducible refine (?_ : We _ (.Call (.Name "int" _) _ _ _) _ _ _)); refine we_callTy (Tx.f_int (by assumption)) boot_int' ?_; refine wa_cons ?_)
  | ((with_reducible refine (?_ : We _ (.Call (.Name "tuple" _) _ _ _) _ _ _)); refine we_callTy (Tx.f_tuple (by assumption)) boot_tuple' ?_; refine wa_cons ?_)
  | ((with_reducible refine (?_ : We _ (.Call (.Name "list" _) _ _ _) _ _ _)); refine we_callTy (Tx.f_list (by assumption)) boot_list' ?_; refine wa_cons ?_))
local macro_rules | `(tactic| walk_at "k") => `(tactic| first | refine we_int ?_ | refine we_str ?_ | refine we_bl ?_ | refine we_non ?_)
local macro_rules | `(tactic| walk_at "o+") => `(tactic| first | refine od_add ?_)
local macro_rules | `(tactic| walk_at "oe") => `(tactic| first | refine od_eqI ?_ | refine od_eqS ?_)
local macro_rules | `(tactic| walk_at "on") => `(tactic| first | refine od_neI ?_ | refine od_neS ?_)
local macro_rules | `(tactic| walk_at "c") => `(tactic| first | refine cd_int ?_ | refine cd_tup rfl ?_ | refine cd_tupT ?_ | refine cd_lst rfl ?_ | refine cd_lstT ?_)
local macro_rules | `(tactic| walk_at "w") => `(tactic| first
  | ((with_reducible refine (?_ : We _ (.Name _ _) _ _ _)); walk_at "v")
  | ((with_reducible refine (?_ : We _ (.Constant _ _ _) _ _ _)); walk_at "k")
  | ((with_reducible refine (?_ : We _ (.Subscript _ (.Slice _ _ _ _) _) _ _ _)); refine we_slice ?_)
  | ((with_reducible refine (?_ : We _ (.Subscript _ _ _) _ _ _)); refine we_ix (fun _ _ => rfl) ?_)
  | ((with_reducible refine (?_ : We _ (.Call _ _ _ _) _ _ _)); walk_at "b")
  | ((with_reducible refine (?_ : We _ (.BinOp _ _ _ _) _ _ _)); refine we_bin ?_)
  | ((with_reducible refine (?_ : We _ (.Compare _ _ _ _) _ _ _)); refine we_cmp rfl ?_)
  | ((with_reducible refine (?_ : We _ (.UnaryOp .USub _ _) _ _ _)); refine we_un ?_)
  | ((with_reducible refine (?_ : We _ (.Tuple _ _ _) _ _ _)); refine we_tup ?_)
  | ((with_reducible refine (?_ : We _ (.List _ _) _ _ _)); refine we_lst ?_)
  | ((with_reducible refine (?_ : Wa _ [] _ _ _)); refine wa_nil ?_)
  | ((with_reducible refine (?_ : Wa _ (_ :: _) _ _ _)); refine wa_cons ?_)
  | ((with_reducible refine (?_ : Wt _ (.Compare _ _ _ _) _ _ _)); refine wt_cmp rfl ?_)
  | ((with_reducible refine (?_ : Wt _ (.UnaryOp .Not _ _) _ _ _)); refine wt_not ?_)
  | ((with_reducible refine (?_ : Wt _ (.BoolOp _ _ _) _ _ _)); refine wt_bool ?_)
  | ((with_reducible refine (?_ : Ww _ (.BoolOp .And (_ :: _ :: _) _) _ _ _)); refine ww_and ?_)
  | ((with_reducible refine (?_ : Ww _ (.BoolOp .Or (_ :: _ :: _) _) _ _ _)); refine ww_or ?_)
  | ((with_reducible refine (?_ : Ww _ (.BoolOp .And _ _) _ _ _)); refine ww_and1 ?_)
  | ((with_reducible refine (?_ : Ww _ (.BoolOp .Or _ _) _ _ _)); refine ww_or1 ?_)
  | ((with_reducible refine (?_ : Wp _ none _ _ _)); refine wp_none ?_)
  | ((with_reducible refine (?_ : Wp _ (some _) _ _ _)); refine wp_some ?_)
  | ((with_reducible refine (?_ : Od _ (binaryOp .Add) _ _ _ _ _)); refine od_add ?_)
  | ((with_reducible refine (?_ : Od _ (binaryOp .Sub) _ _ _ _ _)); refine od_sub ?_)
  | ((with_reducible refine (?_ : Od _ (binaryOp .Mult) _ _ _ _ _)); refine od_mul ?_)
  | ((with_reducible refine (?_ : Od _ (binaryOp .FloorDiv) _ _ _ _ _)); refine od_fdiv ?_)
  | ((with_reducible refine (?_ : Od _ (binaryOp .Mod) _ _ _ _ _)); refine od_mod ?_)
  | ((with_reducible refine (?_ : Od _ (compareOp .Eq) _ _ _ _ _)); walk_at "oe")
  | ((with_reducible refine (?_ : Od _ (compareOp .NotEq) _ _ _ _ _)); walk_at "on")
  | ((with_reducible refine (?_ : Od _ (compareOp .Lt) _ _ _ _ _)); refine od_lt ?_)
  | ((with_reducible refine (?_ : Od _ (compareOp .LtE) _ _ _ _ _)); refine od_le ?_)
  | ((with_reducible refine (?_ : Od _ (compareOp .Gt) _ _ _ _ _)); refine od_gt ?_)
  | ((with_reducible refine (?_ : Od _ (compareOp .GtE) _ _ _ _ _)); refine od_ge ?_)
  | ((with_reducible refine (?_ : Od _ (compareOp .Is) _ _ _ _ _)); refine od_isN ?_)
  | ((with_reducible refine (?_ : Od _ (compareOp .IsNot) _ _ _ _ _)); refine od_isnotN ?_)
  | ((with_reducible refine (?_ : Ud _ _ _ _ _ _)); refine ud_neg ?_)
  | ((with_reducible refine (?_ : Cd _ (.type _) _ _ _ _)); walk_at "c")
  | ((with_reducible refine (?_ : Id _ _ _ (.dat (.tuple _)) _ _)); refine id_tup (by rfl) ?_)
  | ((with_reducible refine (?_ : ∃ k, Sl.dat (PyData.bool _) = Sl.dat (PyData.bool k) ∧ _)); refine ⟨_, rfl, ?_⟩)
  | ((with_reducible refine (?_ : ∃ i, Sl.dat (PyData.int _) = Sl.dat (PyData.int i) ∧ _)); refine ⟨_, rfl, ?_⟩)
  | ((with_reducible refine (?_ : ∃ ds, datsOf _ = some ds ∧ _ ∧ _)); refine ⟨_, rfl, Nat.le_of_ble_eq_true rfl, ?_⟩)
  | ((with_reducible refine (?_ : Id _ _ _ (.dat _) _ _)); refine id_tup (by rfl) ?_))
section
variable {P : Program} {w : World} {K : PySem.W.Frag} {mg : Str → Option Value} {base : Heap}
/-! ### check_act, check_choice -/
abbrev nCho : List Str := ["choice", "many", "place", "left", "word", "right"]
theorem fs_cho : FnScope nCho ["choice", "many", "place"] dCheckCho.scope := ⟨rfl, rfl, rfl, by decide +kernel, rfl, by decide +kernel, by decide +kernel⟩
def sCho (K : PySem.W.Frag) : Spec (Bool × Ch × Int × Int) where
  args := fun a => [.dat (chB a.1 a.2.1), dI a.2.2.1, dI a.2.2.2]
  rt := fun a r J => J = .emp ∧ r = dN ∧ good a.2.1 a.2.2.1 = true
  ex := fun a e J => J = .emp ∧ good a.2.1 a.2.2.1 = false ∧ e = ⟨He.ga K "BadChoice", "place", .int a.2.2.2⟩
theorem Tx.raiser (T : Tx P K mg) {x f : Str} (h : (x, f) ∈ ([("TooMany", "limit"), ("BadAct", "place"), ("BadChoice", "place"), ("NoEntry", "key"), ("NoMind", "name")] : List (Str × Str))) : ∃ fI, XTxt P K mg x (He.ga K x) fI f := T.exc (x, f) h
theorem b_cho (T : Tx P K mg) : Body P w K mg base dCheckCho nCho (sCho K) 3 := by
  rintro ⟨b, c, many, place⟩ cdv A0 outer s W0 E hr hp
  have nd := fs_cho.nd
  obtain ⟨wa, wm, ws⟩ := T.wds
  obtain ⟨fI, hX⟩ := T.raiser (x := "BadChoice") (f := "place") (by decide)
  refine wss_cons (ws_asg ?_)
  walk_at "w"
  have tail : ∀ A : DL.Act, A = (actOf P w K mg base nCho dCheckCho.qual dCheckCho.scope (He.fAd K dCheckCho.at_) cdv A0 outer s ((sCho K).md (b, c, many, place)) W0 E ((sCho K).ex (b, c, many, place))) → Wss A (dCheckCho.body.drop 1) [.dat (chB b c), dI many, dI place, dI c.l, dS c.w, dI c.r] .emp (fun _ J' => (sCho K).rt (b, c, many, place) dN J') ((sCho K).rt (b, c, many, place)) (fun _ _ => False) (fun _ _ => False) := by
    rintro A rfl
    refine wss_cons (ws_if ?_)
    have bad : good c many = false → ∀ A : DL.Act, A = (actOf P w K mg base nCho dCheckCho.qual dCheckCho.scope (He.fAd K dCheckCho.at_) cdv A0 outer s ((sCho K).md (b, c, many, place)) W0 E ((sCho K).ex (b, c, many, place))) → Wss A (match dCheckCho.body.getD 1 (.Pass ⟨0, 0, 0, 0⟩) with | .If _ a _ _ => a | _ => []) [.dat (chB b c), dI many, dI place, dI c.l, dS c.w, dI c.r] .emp (fun ρ' J' => Wss A [] ρ' J' (fun _ J' => (sCho K).rt (b, c, many, place) dN J') ((sCho K).rt (b, c, many, place)) (fun _ _ => False) (fun _ _ => False)) ((sCho K).rt (b, c, many, place)) (fun _ _ => False) (fun _ _ => False) := by
      rintro hg A rfl
      refine wss_cons (ws_raise rfl (takes_of rfl rfl rfl rfl) hX hr ?_)
      walk_at "w"
      exact ⟨_, rfl, rfl, hg, rfl⟩
    walk_at "w"
    walk_at "w"
    walk_at "w"
    walk_at "w"
    refine we_glob (v := .ref wa) ⟨_, wm, rfl⟩ (fun B => .tup (ws B) (.cons (.str _) (.cons (.str _) (.cons (.str _) .nil)))) ?_
    refine od_niF rfl (.inr rfl) rfl rfl ?_
    rw [words_any]
    refine ⟨_, rfl, ?_⟩
    by_cases g1 : c.w ∈ words
    · rw [decide_eq_true g1]
      show if false = true then _ else _
      refine iteF ?_
      repeat walk_at "w"
      by_cases g2 : c.l = c.r
      · rw [decide_eq_true g2]
        refine iteT (iteT (bad ?_ _ rfl))
        unfold good
        rw [decide_eq_true g1, decide_eq_false (fun z => z g2)]; rfl
      · rw [decide_eq_false g2]
        refine iteF ?_
        repeat walk_at "w"
        refine cd_min2 rfl ?_
        repeat walk_at "w"
        have em : (if c.r < c.l then c.r else c.l) = min c.l c.r := by
          rw [Int.min_def]
          split <;> split <;> omega
        rw [em]
        by_cases g3 : min c.l c.r < 0
        · rw [decide_eq_true g3]
          refine iteT (iteT (bad ?_ _ rfl))
          unfold good
          rw [decide_eq_true g1, decide_eq_true g2, decide_eq_false (by omega : ¬ 0 ≤ min c.l c.r)]; rfl
        · rw [decide_eq_false g3]
          refine iteF ?_
          repeat walk_at "w"
          refine cd_max2 rfl ?_
          repeat walk_at "w"
          have eM : (if c.r > c.l then c.r else c.l) = max c.l c.r := by
            rw [Int.max_def]
            split <;> split <;> omega
          rw [eM]
          by_cases g4 : many ≤ max c.l c.r
          · rw [decide_eq_true g4]
            refine iteT (bad ?_ _ rfl)
            unfold good
            rw [decide_eq_true g1, decide_eq_true g2, decide_eq_true (by omega : 0 ≤ min c.l c.r), decide_eq_false (by omega : ¬ max c.l c.r < many)]; rfl
          · rw [decide_eq_false g4]
            refine iteF (wss_nil (wss_nil ⟨rfl, rfl, ?_⟩))
            show good c many = true
            unfold good
            rw [decide_eq_true g1, decide_eq_true g2, decide_eq_true (by omega : 0 ≤ min c.l c.r), decide_eq_true (by omega : max c.l c.r < many)]; rfl
    · rw [decide_eq_false g1]
      refine iteT (iteT (bad ?_ _ rfl))
      unfold good
      rw [decide_eq_false g1]; rfl
  cases b with
  | false =>
    refine wg_tup rfl ?_
    refine wgs_cons (wg_name 3 ?_ nd)
    refine wgs_cons (wg_name 4 ?_ nd)
    refine wgs_cons (wg_name 5 ?_ nd)
    exact wgs_nil (tail _ rfl)
  | true =>
    refine wg_lst rfl rfl ?_
    refine wgs_cons (wg_name 3 ?_ nd)
    refine wgs_cons (wg_name 4 ?_ nd)
    refine wgs_cons (wg_name 5 ?_ nd)
    exact wgs_nil (tail _ rfl)
theorem c_cho (T : Tx P K mg) : Cal P w K mg base 4 "check_choice" ((sCho K).sp K) :=
  cal_of T (b_cho T) rfl T.glo (by unfold fn; repeat (first | with_reducible exact List.Mem.head _ | apply List.Mem.tail)) rfl rfl fs_cho (fun _ => rfl) (fun a => by obtain ⟨b, _⟩ := a; cases b <;> rfl) (by decide) (fun _ _ _ _ _ _ us h => match us, h with | [_, _, _], _ => rfl)
end
end KK

namespace KK
open PySem PySem.Spec PyProof.Rows L2 DL
local macro_rules | `(tactic| walk_at "v") => `(tactic| first
  | refine we_varI ?_
  | refine we_varOI ?_
  | ((with_reducible refine (?_ : We _ (.Name "int" _) _ _ _)); refine we_ty (Tx.f_int (by assumption)) boot_int' ?_)
  | ((with_reducible refine (?_ : We _ (.Name "bool" _) _ _ _)); refine we_ty (Tx.f_bool (by assumption)) boot_bool' ?_)
  | ((with_reducible refine (?_ : We _ (.Name "str" _) _ _ _)); refine we_ty (Tx.f_str (by assumption)) boot_str' ?_)
  | ((with_reducible refine (?_ : We _ (.Name "tuple" _) _ _ _)); refine we_ty (Tx.f_tuple (by assumption)) boot_tuple' ?_)
  | ((with_reducible refine (?_ : We _ (.Name "list" _) _ _ _)); refine we_ty (Tx.f_list (by assumption)) boot_list' ?_)
  | refine we_glob (Tx.int (by assumption)) (fun _ => .int _) ?_)
local macro_rules | `(tactic| walk_at "b") => `(tactic| first
  | ((with_reducible refine (?_ : We _ (.Call (.Name "len" _) _ _ _) _ _ _)); refine we_callB (Tx.f_len (by assumption)) boot_len ?_; refine wa_cons ?_)
  | ((with_reducible refine (?_ : We _ (.Call (.Name "isinstance" _) _ _ _) _ _ _)); refine we_callB (Tx.f_isinstance (by assumption)) DL.boot_isinstance ?_; refine wa_cons ?_)
  | ((with_reducible refine (?_ : We _ (.Call (.Name "max" _) _ _ _) _ _ _)); refine we_callB (Tx.f_max (by assumption)) boot_max' ?_; refine wa_cons ?_)
  | ((with_reducible refine (?_ : We _ (.Call (.Name "min" _) _ _ _) _ _ _)); refine we_callB (Tx.f_min (by assumption)) boot_min' ?_; refine wa_cons ?_)
  | ((with_reducible refine (?_ : We _ (.Call (.Name "int" _) _ _ _) _ _ _)); refine we_callTy (Tx.f_int (by assumption)) boot_int' ?_; refine wa_cons ?_)
  | ((with_reducible refine (?_ : We _ (.Call (.Name "tuple" _) _ _ _) _ _ _)); refine we_callTy (Tx.f_tuple (by assumption)) boot_tuple' ?_; refine wa_cons ?_)
  | ((with_reducible refine (?_ : We _ (.Call (.Name "list" _) _ _ _) _ _ _)); refine we_callTy (Tx.f_list (by assumption)) boot_list' ?_; refine wa_cons ?_))
local macro_rules | `(tactic| walk_at "k") => `(tactic| first | refine we_int ?_ | refine we_str ?_ | refine we_bl ?_ | refine we_non ?_)
local macro_rules | `(tactic| walk_at "o+") => `(tactic| first | refine od_add ?_)
local macro_rules | `(tactic| walk_at "oe") => `(tactic| first | refine od_eqI ?_ | refine od_eqS ?_)
local macro_rules | `(tactic| walk_at "on") => `(tactic| first | refine od_neI ?_ | refine od_neS ?_)
local macro_rules | `(tactic| walk_at "c") => `(tactic| first | refine cd_int ?_ | refine cd_tup rfl ?_ | refine cd_tupT ?_ | refine cd_lst rfl ?_ | refine cd_lstT ?_)
local macro_rules | `(tactic| walk_at "w") => `(tactic| first
  | ((with_reducible refine (?_ : We _ (.Name _ _) _ _ _)); walk_at "v")
  | ((with_reducible refine (?_ : We _ (.Constant _ _ _) _ _ _)); walk_at "k")
  | ((with_reducible refine (?_ : We _ (.Subscript _ (.Slice _ _ _ _) _) _ _ _)); refine we_slice ?_)
  | ((with_reducible refine (?_ : We _ (.Subscript _ _ _) _ _ _)); refine we_ix (fun _ _ => rfl) ?_)
  | ((with_reducible refine (?_ : We _ (.Call _ _ _ _) _ _ _)); walk_at "b")
  | ((with_reducible refine (?_ : We _ (.BinOp _ _ _ _) _ _ _)); refine we_bin ?_)
  | ((with_reducible refine (?_ : We _ (.Compare _ _ _ _) _ _ _)); refine we_cmp rfl ?_)
  | ((with_reducible refine (?_ : We _ (.UnaryOp .USub _ _) _ _ _)); refine we_un ?_)
  | ((with_reducible refine (?_ : We _ (.Tuple _ _ _) _ _ _)); refine we_tup ?_)
  | ((with_reducible refine (?_ : We _ (.List _ _) _ _ _)); refine we_lst ?_)
  | ((with_reducible refine (?_ : Wa _ [] _ _ _)); refine wa_nil ?_)
  | ((with_reducible refine (?_ : Wa _ (_ :: _) _ _ _)); refine wa_cons ?_)
  | ((with_reducible refine (?_ : Wt _ (.Compare _ _ _ _) _ _ _)); refine wt_cmp rfl ?_)
  | ((with_reducible refine (?_ : Wt _ (.UnaryOp .Not _ _) _ _ _)); refine wt_not ?_)
  | ((with_reducible refine (?_ : Wt _ (.BoolOp _ _ _) _ _ _)); refine wt_bool ?_)
  | ((with_reducible refine (?_ : Ww _ (.BoolOp .And (_ :: _ :: _) _) _ _ _)); refine ww_and ?_)
  | ((with_reducible refine (?_ : Ww _ (.BoolOp .Or (_ :: _ :: _) _) _ _ _)); refine ww_or ?_)
  | ((with_reducible refine (?_ : Ww _ (.BoolOp .And _ _) _ _ _)); refine ww_and1 ?_)
  | ((with_reducible refine (?_ : Ww _ (.BoolOp .Or _ _) _ _ _)); refine ww_or1 ?_)
  | ((with_reducible refine (?_ : Wp _ none _ _ _)); refine wp_none ?_)
  | ((with_reducible refine (?_ : Wp _ (some _) _ _ _)); refine wp_some ?_)
  | ((with_reducible refine (?_ : Od _ (binaryOp .Add) _ _ _ _ _)); refine od_add ?_)
  | ((with_reducible refine (?_ : Od _ (binaryOp .Sub) _ _ _ _ _)); refine od_sub ?_)
  | ((with_reducible refine (?_ : Od _ (binaryOp .Mult) _ _ _ _ _)); refine od_mul ?_)
  | ((with_reducible refine (?_ : Od _ (binaryOp .FloorDiv) _ _ _ _ _)); refine od_fdiv ?_)
  | ((with_reducible refine (?_ : Od _ (binaryOp .Mod) _ _ _ _ _)); refine od_mod ?_)
  | ((with_reducible refine (?_ : Od _ (compareOp .Eq) _ _ _ _ _)); walk_at "oe")
  | ((with_reducible refine (?_ : Od _ (compareOp .NotEq) _ _ _ _ _)); walk_at "on")
  | ((with_reducible refine (?_ : Od _ (compareOp .Lt) _ _ _ _ _)); refine od_lt ?_)
  | ((with_reducible refine (?_ : Od _ (compareOp .LtE) _ _ _ _ _)); refine od_le ?_)
  | ((with_reducible refine (?_ : Od _ (compareOp .Gt) _ _ _ _ _)); refine od_gt ?_)
  | ((with_reducible refine (?_ : Od _ (compareOp .GtE) _ _ _ _ _)); refine od_ge ?_)
  | ((with_reducible refine (?_ : Od _ (compareOp .Is) _ _ _ _ _)); refine od_isN ?_)
  | ((with_reducible refine (?_ : Od _ (compareOp .IsNot) _ _ _ _ _)); refine od_isnotN ?_)
  | ((with_reducible refine (?_ : Ud _ _ _ _ _ _)); refine ud_neg ?_)
  | ((with_reducible refine (?_ : Cd _ (.type _) _ _ _ _)); walk_at "c")
  | ((with_reducible refine (?_ : Id _ _ _ (.dat (.tuple _)) _ _)); refine id_tup (by rfl) ?_)
  | ((with_reducible refine (?_ : ∃ k, Sl.dat (PyData.bool _) = Sl.dat (PyData.bool k) ∧ _)); refine ⟨_, rfl, ?_⟩)
  | ((with_reducible refine (?_ : ∃ i, Sl.dat (PyData.int _) = Sl.dat (PyData.int i) ∧ _)); refine ⟨_, rfl, ?_⟩)
  | ((with_reducible refine (?_ : ∃ ds, datsOf _ = some ds ∧ _ ∧ _)); refine ⟨_, rfl, Nat.le_of_ble_eq_true rfl, ?_⟩)
  | ((with_reducible refine (?_ : Id _ _ _ (.dat _) _ _)); refine id_tup (by rfl) ?_))
section
variable {A : DL.Act} {ρ : List Sl} {J : Res} {R : Sl → Prop}
theorem id_sq {b : Bool} {ds : List PyData} {i : Int} {d : PyData} (he : atI ds i = some d) (h : R (.dat d)) : Id A ρ J (.dat (sq b ds)) (dI i) R := by
  cases b with
  | false => exact id_tup he h
  | true => exact id_lst rfl he h
theorem cd_lenSq {b : Bool} {ds : List PyData} {n : Nat} (hn : ds.length = n) (hz : n ≤ 1000000) (h : R (dI n)) : Cd A (.builtin "len") ρ J [.dat (sq b ds)] R := by
  subst hn
  cases b with
  | false => exact cd_len (d := .tuple ds) rfl rfl hz h
  | true => exact cd_len (d := .list ds) rfl rfl hz h
theorem cd_tupSq {b : Bool} {ds : List PyData} (h : R (dT ds)) : Cd A (.type "tuple") ρ J [.dat (sq b ds)] R := by
  cases b with
  | false => exact cd_tupT h
  | true => exact cd_tup rfl h
end
section
variable {P : Program} {w : World} {K : PySem.W.Frag} {mg : Str → Option Value} {base : Heap}
abbrev nAct : List Str := ["act", "states", "place"]
theorem fs_act : FnScope nAct ["act", "states", "place"] dCheckAct.scope := ⟨rfl, rfl, rfl, by decide +kernel, rfl, by decide +kernel, by decide +kernel⟩
def actD (ns : List Int) : PyData := .tuple (ns.map .int)
def actOk (ns : List Int) (st : Int) : Prop := (ns.length : Int) = st ∧ ns ≠ [] ∧ ns.length ≤ 1000 ∧ ∀ x ∈ ns, -99 ≤ x ∧ x ≤ 99
def sAct : Spec (List Int × Int × Int) where
  args := fun a => [.dat (actD a.1), dI a.2.1, dI a.2.2]
  pre := fun a => actOk a.1 a.2.1
  rt := fun a r J => J = .emp ∧ r = dN
theorem fold_max {b : Int} : ∀ (ns : List Int) (n : Int), n ≤ b → (∀ x ∈ ns, x ≤ b) → ns.foldl max n ≤ b
  | [], n, h, _ => h
  | x :: r, n, h, ha => fold_max r (max n x) (Int.max_le.mpr ⟨h, ha x List.mem_cons_self⟩) fun y hy => ha y (List.mem_cons_of_mem _ hy)
theorem fold_min {b : Int} : ∀ (ns : List Int) (n : Int), b ≤ n → (∀ x ∈ ns, b ≤ x) → b ≤ ns.foldl min n
  | [], n, h, _ => h
  | x :: r, n, h, ha => fold_min r (min n x) (Int.le_min.mpr ⟨h, ha x List.mem_cons_self⟩) fun y hy => ha y (List.mem_cons_of_mem _ hy)
theorem b_act (T : Tx P K mg) : Body P w K mg base dCheckAct nAct sAct 3 := by
  rintro ⟨ns, st, place⟩ cdv A0 outer s W0 E hr ⟨hl, hne, hlen, hall⟩
  have nd := fs_act.nd
  obtain ⟨n, r, rfl⟩ := List.exists_cons_of_ne_nil hne
  have hu := hr.units
  refine wss_cons (ws_if ?_)
  walk_at "w"
  walk_at "w"
  walk_at "w"
  walk_at "w"
  walk_at "w"
  walk_at "w"
  refine cd_len (d := actD (n :: r)) rfl rfl (by rw [List.length_map]; have : (n :: r).length ≤ 1000 := hlen; omega) ?_
  rw [List.length_map]
  walk_at "w"
  walk_at "w"
  refine ⟨_, rfl, ?_⟩
  rw [decide_eq_true (show (((n :: r).length : Nat) : Int) = st from hl)]
  refine iteF ?_
  walk_at "w"
  walk_at "w"
  walk_at "w"
  walk_at "w"
  walk_at "w"
  refine cd_maxT rfl (by show A0.units + 3 + 2 < _; have : A0.units + 3 + 64 < cLine := hu; omega) ?_
  walk_at "w"
  walk_at "w"
  refine ⟨_, rfl, ?_⟩
  have h1 : ¬ (99 : Int) < r.foldl max n := by
    have := fold_max (b := 99) r n (hall n List.mem_cons_self).2 fun y hy => (hall y (List.mem_cons_of_mem _ hy)).2
    omega
  rw [decide_eq_false h1]
  refine iteF ?_
  walk_at "w"
  walk_at "w"
  walk_at "w"
  walk_at "w"
  walk_at "w"
  refine cd_minT rfl (by show A0.units + 3 + 2 < _; have : A0.units + 3 + 64 < cLine := hu; omega) ?_
  walk_at "w"
  walk_at "w"
  walk_at "w"
  walk_at "w"
  refine ⟨_, rfl, ?_⟩
  have h2 : ¬ r.foldl min n < -(99 : Int) := by
    have := fold_min (b := -99) r n (hall n List.mem_cons_self).1 fun y hy => (hall y (List.mem_cons_of_mem _ hy)).1
    omega
  rw [decide_eq_false h2]
  exact iteF (wss_nil (wss_nil ⟨rfl, rfl⟩))
theorem c_act (T : Tx P K mg) : Cal P w K mg base 4 "check_act" (sAct.sp K) :=
  cal_of T (b_act T) rfl T.glo (by unfold fn; repeat (first | with_reducible exact List.Mem.head _ | apply List.Mem.tail)) rfl rfl fs_act (fun _ => rfl) (fun a => rfl) (by decide) (fun _ _ _ _ _ _ us h => match us, h with | [_, _, _], _ => rfl)
end
end KK

namespace KK
open PySem PySem.Spec PyProof.Rows L2 DL
local macro_rules | `(tactic| walk_at "v") => `(tactic| first
  | refine we_varI ?_
  | refine we_varOI ?_
  | ((with_reducible refine (?_ : We _ (.Name "int" _) _ _ _)); refine we_ty (Tx.f_int (by assumption)) boot_int' ?_)
  | ((with_reducible refine (?_ : We _ (.Name "bool" _) _ _ _)); refine we_ty (Tx.f_bool (by assumption)) boot_bool' ?_)
  | ((with_reducible refine (?_ : We _ (.Name "str" _) _ _ _)); refine we_ty (Tx.f_str (by assumption)) boot_str' ?_)
  | ((with_reducible refine (?_ : We _ (.Name "tuple" _) _ _ _)); refine we_ty (Tx.f_tuple (by assumption)) boot_tuple' ?_)
  | ((with_reducible refine (?_ : We _ (.Name "list" _) _ _ _)); refine we_ty (Tx.f_list (by assumption)) boot_list' ?_)
  | refine we_glob (Tx.int (by assumption)) (fun _ => .int _) ?_)
local macro_rules | `(tactic| walk_at "b") => `(tactic| first
  | ((with_reducible refine (?_ : We _ (.Call (.Name "len" _) _ _ _) _ _ _)); refine we_callB (Tx.f_len (by assumption)) boot_len ?_; refine wa_cons ?_)
  | ((with_reducible refine (?_ : We _ (.Call (.Name "isinstance" _) _ _ _) _ _ _)); refine we_callB (Tx.f_isinstance (by assumption)) DL.boot_isinstance ?_; refine wa_cons ?_)
  | ((with_reducible refine (?_ : We _ (.Call (.Name "max" _) _ _ _) _ _ _)); refine we_callB (Tx.f_max (by assumption)) boot_max' ?_; refine wa_cons ?_)
  | ((with_reducible refine (?_ : We _ (.Call (.Name "min" _) _ _ _) _ _ _)); refine we_callB (Tx.f_min (by assumption)) boot_min' ?_; refine wa_cons ?_)
  | ((with_reducible refine (?_ : We _ (.Call (.Name "int" _) _ _ _) _ _ _)); refine we_callTy (Tx.f_int (by assumption)) boot_int' ?_; refine wa_cons ?_)
  | ((with_reducible refine (?_ : We _ (.Call (.Name "tuple" _) _ _ _) _ _ _)); refine we_callTy (Tx.f_tuple (by assumption)) boot_tuple' ?_; refine wa_cons ?_)
  | ((with_reducible refine (?_ : We _ (.Call (.Name "list" _) _ _ _) _ _ _)); refine we_callTy (Tx.f_list (by assumption)) boot_list' ?_; refine wa_cons ?_))
local macro_rules | `(tactic| walk_at "k") => `(tactic| first | refine we_int ?_ | refine we_str ?_ | refine we_bl ?_ | refine we_non ?_)
local macro_rules | `(tactic| walk_at "o+") => `(tactic| first | refine od_add ?_)
local macro_rules | `(tactic| walk_at "oe") => `(tactic| first | refine od_eqI ?_ | refine od_eqS ?_)
local macro_rules | `(tactic| walk_at "on") => `(tactic| first | refine od_neI ?_ | refine od_neS ?_)
local macro_rules | `(tactic| walk_at "c") => `(tactic| first | refine cd_int ?_ | refine cd_tup rfl ?_ | refine cd_tupT ?_ | refine cd_lst rfl ?_ | refine cd_lstT ?_)
local macro_rules | `(tactic| walk_at "w") => `(tactic| first
  | ((with_reducible refine (?_ : We _ (.Name _ _) _ _ _)); walk_at "v")
  | ((with_reducible refine (?_ : We _ (.Constant _ _ _) _ _ _)); walk_at "k")
  | ((with_reducible refine (?_ : We _ (.Subscript _ (.Slice _ _ _ _) _) _ _ _)); refine we_slice ?_)
  | ((with_reducible refine (?_ : We _ (.Subscript _ _ _) _ _ _)); refine we_ix (fun _ _ => rfl) ?_)
  | ((with_reducible refine (?_ : We _ (.Call _ _ _ _) _ _ _)); walk_at "b")
  | ((with_reducible refine (?_ : We _ (.BinOp _ _ _ _) _ _ _)); refine we_bin ?_)
  | ((with_reducible refine (?_ : We _ (.Compare _ _ _ _) _ _ _)); refine we_cmp rfl ?_)
  | ((with_reducible refine (?_ : We _ (.UnaryOp .USub _ _) _ _ _)); refine we_un ?_)
  | ((with_reducible refine (?_ : We _ (.Tuple _ _ _) _ _ _)); refine we_tup ?_)
  | ((with_reducible refine (?_ : We _ (.List _ _) _ _ _)); refine we_lst ?_)
  | ((with_reducible refine (?_ : Wa _ [] _ _ _)); refine wa_nil ?_)
  | ((with_reducible refine (?_ : Wa _ (_ :: _) _ _ _)); refine wa_cons ?_)
  | ((with_reducible refine (?_ : Wt _ (.Compare _ _ _ _) _ _ _)); refine wt_cmp rfl ?_)
  | ((with_reducible refine (?_ : Wt _ (.UnaryOp .Not _ _) _ _ _)); refine wt_not ?_)
  | ((with_reducible refine (?_ : Wt _ (.BoolOp _ _ _) _ _ _)); refine wt_bool ?_)
  | ((with_reducible refine (?_ : Ww _ (.BoolOp .And (_ :: _ :: _) _) _ _ _)); refine ww_and ?_)
  | ((with_reducible refine (?_ : Ww _ (.BoolOp .Or (_ :: _ :: _) _) _ _ _)); refine ww_or ?_)
  | ((with_reducible refine (?_ : Ww _ (.BoolOp .And _ _) _ _ _)); refine ww_and1 ?_)
  | ((with_reducible refine (?_ : Ww _ (.BoolOp .Or _ _) _ _ _)); refine ww_or1 ?_)
  | ((with_reducible refine (?_ : Wp _ none _ _ _)); refine wp_none ?_)
  | ((with_reducible refine (?_ : Wp _ (some _) _ _ _)); refine wp_some ?_)
  | ((with_reducible refine (?_ : Od _ (binaryOp .Add) _ _ _ _ _)); refine od_add ?_)
  | ((with_reducible refine (?_ : Od _ (binaryOp .Sub) _ _ _ _ _)); refine od_sub ?_)
  | ((with_reducible refine (?_ : Od _ (binaryOp .Mult) _ _ _ _ _)); refine od_mul ?_)
  | ((with_reducible refine (?_ : Od _ (binaryOp .FloorDiv) _ _ _ _ _)); refine od_fdiv ?_)
  | ((with_reducible refine (?_ : Od _ (binaryOp .Mod) _ _ _ _ _)); refine od_mod ?_)
  | ((with_reducible refine (?_ : Od _ (compareOp .Eq) _ _ _ _ _)); walk_at "oe")
  | ((with_reducible refine (?_ : Od _ (compareOp .NotEq) _ _ _ _ _)); walk_at "on")
  | ((with_reducible refine (?_ : Od _ (compareOp .Lt) _ _ _ _ _)); refine od_lt ?_)
  | ((with_reducible refine (?_ : Od _ (compareOp .LtE) _ _ _ _ _)); refine od_le ?_)
  | ((with_reducible refine (?_ : Od _ (compareOp .Gt) _ _ _ _ _)); refine od_gt ?_)
  | ((with_reducible refine (?_ : Od _ (compareOp .GtE) _ _ _ _ _)); refine od_ge ?_)
  | ((with_reducible refine (?_ : Od _ (compareOp .Is) _ _ _ _ _)); refine od_isN ?_)
  | ((with_reducible refine (?_ : Od _ (compareOp .IsNot) _ _ _ _ _)); refine od_isnotN ?_)
  | ((with_reducible refine (?_ : Ud _ _ _ _ _ _)); refine ud_neg ?_)
  | ((with_reducible refine (?_ : Cd _ (.type _) _ _ _ _)); walk_at "c")
  | ((with_reducible refine (?_ : Id _ _ _ (.dat (.tuple _)) _ _)); refine id_tup (by rfl) ?_)
  | ((with_reducible refine (?_ : ∃ k, Sl.dat (PyData.bool _) = Sl.dat (PyData.bool k) ∧ _)); refine ⟨_, rfl, ?_⟩)
  | ((with_reducible refine (?_ : ∃ i, Sl.dat (PyData.int _) = Sl.dat (PyData.int i) ∧ _)); refine ⟨_, rfl, ?_⟩)
  | ((with_reducible refine (?_ : ∃ ds, datsOf _ = some ds ∧ _ ∧ _)); refine ⟨_, rfl, Nat.le_of_ble_eq_true rfl, ?_⟩)
  | ((with_reducible refine (?_ : Id _ _ _ (.dat _) _ _)); refine id_tup (by rfl) ?_))
section
variable {P : Program} {w : World} {K : PySem.W.Frag} {mg : Str → Option Value} {base : Heap}
/-! ### Book.__init__ -/
abbrev nBI : List Str := ["self", "states", "acts", "seen", "place", "rows", "act"]
theorem fs_BI : FnScope nBI ["self", "states", "acts", "seen"] dBookInit.scope := ⟨rfl, rfl, rfl, by decide +kernel, rfl, by decide +kernel, by decide +kernel⟩
structure BkA where
  a : Addr
  st : Int
  fa : Bool
  acts : List (List Int)
  fs : Bool
  seen : List (Bool × Ch)
def BkA.cs (x : BkA) : List Ch := x.seen.map (·.2)
abbrev bkC (K : PySem.W.Frag) : Addr := He.ga K "Book"
def bkF (st : Int) (acts : List (List Int)) (seen : List Ch) : List (Str × Sl) := [("states", dI st), ("acts", dT (acts.map actD)), ("seen", dT (seen.map chD))]
/-- what the making of a book says -/
inductive BkW where
  | ok | badC (p : Nat) | many
def bkW (cs : List Ch) (many : Int) : BkW := match bad? cs many with
  | some p => .badC p
  | none => if (dedup cs).length ≤ 8 then .ok else .many
def bkE (K : PySem.W.Frag) : BkW → Exn → Prop
  | .ok, _ => False
  | .badC p, e => e = ⟨He.ga K "BadChoice", "place", .int p⟩
  | .many, e => e = ⟨He.ga K "TooMany", "limit", .int 8⟩
def actsOk (acts : List (List Int)) (st : Int) : Prop := st ≤ 4 ∧ acts.length ≤ 5 ∧ ∀ act ∈ acts, actOk act st
def sBI (K : PySem.W.Frag) : Spec BkA where
  args := fun x => [.raw (.ref x.a), dI x.st, .dat (sq x.fa (x.acts.map actD)), .dat (sq x.fs (x.seen.map fun p => chB p.1 p.2))]
  pre := fun x => actsOk x.acts x.st ∧ x.seen.length ≤ 1000
  J := fun x => Res.ins K x.a (bkC K) []
  M := fun x z o => z = x.a
  rt := fun x r J => r = dN ∧ J = Res.ins K x.a (bkC K) (bkF x.st x.acts (dedup x.cs)) ∧ bkW x.cs x.acts.length = .ok
  ex := fun x e J => J = Res.ins K x.a (bkC K) [] ∧ bkE K (bkW x.cs x.acts.length) e
theorem dedup_snoc {α : Type} [DecidableEq α] (xs : List α) (x : α) : dedup (xs ++ [x]) = put1 (dedup xs) x := by
  unfold dedup
  rw [List.foldl_append]
  rfl
theorem dedup_len {α : Type} [DecidableEq α] : ∀ xs : List α, (dedup xs).length ≤ xs.length := by
  have key : ∀ (xs acc : List α), (xs.foldl put1 acc).length ≤ acc.length + xs.length := fun xs => by
    induction xs with
    | nil => intro acc; exact Nat.le_refl _
    | cons x r ih =>
      intro acc
      refine Nat.le_trans (ih (put1 acc x)) ?_
      have : (put1 acc x).length ≤ acc.length + 1 := by
        unfold put1
        split
        · omega
        · rw [List.length_append]; exact Nat.le_refl _
      show _ ≤ acc.length + (r.length + 1)
      omega
  intro xs
  have := key xs []
  rw [List.length_nil, Nat.zero_add] at this
  exact this
/-- data whose equality may be asked -/
def okE (n : Nat) : PyData → Bool
  | .none => true
  | .bool _ => true
  | .int _ => true
  | .str _ => true
  | _ => false
theorem shaped_list {ds : List PyData} (h : ∀ d ∈ ds, d.canLay0 = true ∧ d.depth ≤ 60) : (PyData.list ds).canLay0 = true ∧ (PyData.list ds).depth ≤ 61 ∧ (PyData.tuple ds).canLay0 = true ∧ (PyData.tuple ds).depth ≤ 61 := by
  have key : PyData.canLayAll0 ds = true ∧ PyData.depthAll ds ≤ 60 := by
    induction ds with
    | nil => exact ⟨rfl, by decide⟩
    | cons d r ih =>
      obtain ⟨h1, h2⟩ := h d List.mem_cons_self
      obtain ⟨i1, i2⟩ := ih fun x hx => h x (List.mem_cons_of_mem _ hx)
      refine ⟨?_, Nat.max_le.mpr ⟨h2, i2⟩⟩
      show (d.canLay0 && PyData.canLayAll0 r) = true
      rw [h1, i1]; rfl
  exact ⟨key.1, Nat.succ_le_succ key.2, key.1, Nat.succ_le_succ key.2⟩
theorem shaped_of {d : PyData} (h : d.canLay0 = true) (h2 : d.depth ≤ 64) : SeqAt.shaped d = true := by
  unfold SeqAt.shaped
  rw [h, decide_eq_true h2]; rfl
theorem words_ok {x : Str} (h : x ∈ words) : PyData.strOk x = true := by
  unfold words at h
  rcases List.mem_cons.mp h with e | h
  · subst e; decide +kernel
  rcases List.mem_cons.mp h with e | h
  · subst e; decide +kernel
  rcases List.mem_cons.mp h with e | h
  · subst e; decide +kernel
  · cases h
theorem good_w {c : Ch} {many : Int} (h : good c many = true) : c.w ∈ words := of_decide_eq_true (Bool.and_eq_true_iff.mp h).1
theorem lay_chL {c : Ch} (h : PyData.strOk c.w = true) : ∀ d ∈ chL c, d.canLay0 = true ∧ d.depth ≤ 60 := fun d hd => by
  unfold chL at hd
  rcases List.mem_cons.mp hd with e | hd
  · subst e; exact ⟨rfl, by show (0 : Nat) ≤ 60; decide⟩
  rcases List.mem_cons.mp hd with e | hd
  · subst e; exact ⟨h, by show (0 : Nat) ≤ 60; decide⟩
  rcases List.mem_cons.mp hd with e | hd
  · subst e; exact ⟨rfl, by show (0 : Nat) ≤ 60; decide⟩
  · cases hd
theorem lay_ch {c : Ch} (h : PyData.strOk c.w = true) : (chD c).canLay0 = true ∧ (chD c).depth ≤ 60 := by
  have h := shaped_list (lay_chL h)
  exact ⟨h.2.2.1, by show 1 ≤ 60; decide⟩
theorem shaped_ch {c : Ch} (h : PyData.strOk c.w = true) : SeqAt.shaped (chD c) = true := shaped_of (lay_ch h).1 (Nat.le_trans (lay_ch h).2 (by decide))
theorem shaped_chs {cs : List Ch} (h : ∀ c ∈ cs, PyData.strOk c.w = true) : SeqAt.shaped (.list (cs.map chD)) = true := by
  have h := shaped_list (ds := cs.map chD) fun d hd => by
    obtain ⟨c, hc, rfl⟩ := List.mem_map.mp hd
    exact lay_ch (h c hc)
  exact shaped_of h.1 (Nat.le_trans h.2.1 (by decide))
theorem dedup_mem {α : Type} [DecidableEq α] {x : α} : ∀ {xs : List α}, x ∈ dedup xs ↔ x ∈ xs := by
  have key : ∀ (xs acc : List α), x ∈ xs.foldl put1 acc ↔ x ∈ acc ∨ x ∈ xs := fun xs => by
    induction xs with
    | nil => intro acc; simp
    | cons y r ih =>
      intro acc
      show x ∈ r.foldl put1 (put1 acc y) ↔ _
      rw [ih]
      have : x ∈ put1 acc y ↔ x ∈ acc ∨ x = y := by
        unfold put1
        split
        · rename_i hy
          constructor
          · exact .inl
          · rintro (h | h)
            · exact h
            · rw [h]; exact hy
        · simp
      rw [this, List.mem_cons, or_assoc]
  intro xs
  have := key xs []
  unfold dedup
  rw [this]
  simp
theorem any_ch (cs : List Ch) (c : Ch) : ((cs.map chD).any fun z => PyData.eqv z (chD c)) = decide (c ∈ cs) := by
  induction cs with
  | nil => rfl
  | cons x r ih =>
    show (PyData.eqv (chD x) (chD c) || (r.map chD).any _) = _
    rw [ih, eqv_ch, Bool.eq_iff_iff]
    simp only [Bool.or_eq_true, decide_eq_true_eq, List.mem_cons]
    exact ⟨fun z => z.imp Eq.symm id, fun z => z.imp Eq.symm id⟩
theorem bad_none_at {cs : List Ch} {many : Int} (h : ∀ (j : Nat) (c : Ch), cs[j]? = some c → good c many = true) : bad? cs many = none := by
  unfold bad?
  rw [List.findIdx?_eq_none_iff]
  intro c hc
  obtain ⟨j, hj, e⟩ := List.mem_iff_getElem.mp hc
  rw [h j c (by rw [List.getElem?_eq_getElem hj, e])]; rfl
theorem bad_some_at {cs : List Ch} {many : Int} {k : Nat} {c : Ch} (hc : cs[k]? = some c) (hg : good c many = false) (h : ∀ (j : Nat), j < k → ∀ (c : Ch), cs[j]? = some c → good c many = true) : bad? cs many = some k := by
  unfold bad?
  have hk := (List.getElem?_eq_some_iff.mp hc)
  obtain ⟨hk, e⟩ := hk
  rw [List.findIdx?_eq_some_iff_getElem]
  refine ⟨hk, by rw [e, hg]; rfl, fun j hj => ?_⟩
  rw [h j hj cs[j] (List.getElem?_eq_getElem (by omega))]
  decide
theorem b_BI (T : Tx P K mg) : Body P w K mg base dBookInit nBI (sBI K) 6 := by
  rintro ⟨a, st, fa', acts, fs, seen⟩ cdv A0 outer s W0 E hr ⟨⟨hst, hal, hacts⟩, hsl⟩
  have nd := fs_BI.nd
  have hst : st ≤ 4 := hst
  have hal : acts.length ≤ 5 := hal
  have hsl : seen.length ≤ 1000 := hsl
  have hu := hr.units
  have tk : Takes (actOf P w K mg base nBI dBookInit.qual dBookInit.scope (He.fAd K dBookInit.at_) cdv A0 outer s ((sBI K).md ⟨a, st, fa', acts, fs, seen⟩) W0 E ((sBI K).ex ⟨a, st, fa', acts, fs, seen⟩)).X fun cls d _ H => E cls d H := takes_of rfl rfl rfl rfl
  obtain ⟨fT, hT⟩ := T.raiser (x := "TooMany") (f := "limit") (by decide)
  -- if states > 4
  refine wss_cons (ws_if ?_)
  repeat walk_at "w"
  rw [decide_eq_false (by omega : ¬ (4 : Int) < st)]
  refine iteF (wss_nil ?_)
  -- if len(acts) > 5
  refine wss_cons (ws_if ?_)
  walk_at "w"
  walk_at "w"
  walk_at "w"
  walk_at "w"
  refine cd_lenSq (ds := acts.map actD) (n := acts.length) (by rw [List.length_map]) (by omega) ?_
  repeat walk_at "w"
  rw [decide_eq_false (by omega : ¬ (5 : Int) < (acts.length : Int))]
  refine iteF (wss_nil ?_)
  -- the acts
  refine wss_cons ?_
  refine ws_forR (passes_of rfl) rfl T.free ?_
  walk_at "w"
  walk_at "w"
  walk_at "w"
  refine cd_lenSq (ds := acts.map actD) (n := acts.length) (by rw [List.length_map]) (by omega) ?_
  refine ⟨_, rfl, by omega, by omega, fun k ρ' J' => J' = Res.ins K a (bkC K) [] ∧ ∃ r, ρ' = [.raw (.ref a), dI st, .dat (sq fa' (acts.map actD)), .dat (sq fs (seen.map fun p => chB p.1 p.2)), r, .un, .un], ⟨rfl, _, rfl⟩, ?_, ?_⟩
  · rintro k ρ' J' hk ⟨rfl, r, rfl⟩
    have hk' : k < acts.length := by simpa using hk
    obtain ⟨act, ha⟩ : ∃ q, acts[k]? = some q := ⟨acts[k], List.getElem?_eq_getElem hk'⟩
    refine wg_name 4 ?_ nd
    refine wss_cons (ws_expr ?_)
    refine we_call (c_act T) hr (by decide) tk ?_
    walk_at "w"
    walk_at "w"
    walk_at "w"
    walk_at "w"
    refine id_sq (d := actD act) (atI_nat (by rw [List.getElem?_map, ha]; rfl)) ?_
    repeat walk_at "w"
    refine ⟨(act, st, (k : Int)), rfl, rfl, hacts act (List.mem_of_getElem? ha), fun z o q => q, fun _ _ _ => True.intro, fun z q => q.elim, fun r J' hh => ?_, fun e J' z => z.elim⟩
    exact wss_nil ⟨rfl, _, rfl⟩
  rintro ρ' J' ⟨rfl, r0, rfl⟩
  -- rows = []
  refine wss_cons (ws_setI nd ?_)
  walk_at "w"
  walk_at "w"
  refine ⟨[], rfl, by decide, rfl, ?_⟩
  -- the choices
  refine wss_cons ?_
  refine ws_forR (passes_of rfl) rfl T.free ?_
  walk_at "w"
  walk_at "w"
  walk_at "w"
  refine cd_lenSq (ds := seen.map fun p => chB p.1 p.2) (n := seen.length) (by rw [List.length_map]) (by omega) ?_
  refine ⟨_, rfl, by omega, by omega, fun k ρ' J' => J' = Res.ins K a (bkC K) [] ∧ (∀ j, j < k → ∀ c, (seen.map (·.2))[j]? = some c → good c acts.length = true) ∧ ∃ r, ρ' = [.raw (.ref a), dI st, .dat (sq fa' (acts.map actD)), .dat (sq fs (seen.map fun p => chB p.1 p.2)), r, .own ((dedup ((seen.map (·.2)).take k)).map chD), .un],
    ⟨rfl, fun j h => absurd h (Nat.not_lt_zero j), _, rfl⟩, ?_, ?_⟩
  · rintro k ρ' J' hk ⟨rfl, hgood, r, rfl⟩
    have hk' : k < seen.length := by simpa using hk
    obtain ⟨⟨b, c⟩, ha⟩ : ∃ q, seen[k]? = some q := ⟨seen[k], List.getElem?_eq_getElem hk'⟩
    have hc : (seen.map (·.2))[k]? = some c := by rw [List.getElem?_map, ha]; rfl
    have hix : atI (seen.map fun p => chB p.1 p.2) (k : Int) = some (chB b c) := atI_nat (by rw [List.getElem?_map, ha]; rfl)
    refine wg_name 4 ?_ nd
    refine wss_cons (ws_expr ?_)
    refine we_call (c_cho T) hr (by decide) tk ?_
    walk_at "w"
    walk_at "w"
    walk_at "w"
    walk_at "w"
    refine id_sq hix ?_
    walk_at "w"
    walk_at "w"
    walk_at "w"
    walk_at "w"
    refine cd_lenSq (ds := acts.map actD) (n := acts.length) (by rw [List.length_map]) (by omega) ?_
    repeat walk_at "w"
    refine ⟨(b, c, (acts.length : Int), (k : Int)), rfl, by cases b <;> rfl, True.intro, fun z o q => q, fun _ _ _ => True.intro, fun z q => q.elim, fun r J' hh => ?_, fun e J' hh => ?_⟩
    · have hg : good c acts.length = true := hh.2.2
      have hg' : ∀ j, j < k + 1 → ∀ c, (seen.map (·.2))[j]? = some c → good c acts.length = true := fun j hj c' hc' => by
        rcases Nat.lt_succ_iff_lt_or_eq.mp hj with h | h
        · exact hgood j h c' hc'
        · subst h
          rw [hc] at hc'
          cases hc'
          exact hg
      have eT : (seen.map (·.2)).take (k + 1) = (seen.map (·.2)).take k ++ [c] := by
        rw [List.take_add_one, hc]; rfl
      refine wss_cons (ws_if ?_)
      walk_at "w"
      walk_at "w"
      walk_at "w"
      walk_at "w"
      walk_at "w"
      refine id_sq hix ?_
      walk_at "w"
      refine cd_tupSq ?_
      walk_at "w"
      refine od_niD (d := chD c) (ds := (dedup ((seen.map (·.2)).take k)).map chD) (by have := hr.un; show A0.units + 3 + 65 < _; have h3 : A0.units + 3 + 16 * 6 + 200 < cLine := this; omega) rfl rfl (shaped_ch (words_ok (good_w hg))) (shaped_chs fun x hx => by
        have hx := dedup_mem.mp hx
        obtain ⟨j, hj, e⟩ := List.mem_iff_getElem.mp hx
        rw [List.length_take] at hj
        refine words_ok (good_w (hgood j (by omega) x ?_))
        rw [List.getElem_take] at e
        rw [List.getElem?_eq_getElem (by omega), e]) ?_
      rw [any_ch]
      refine ⟨_, rfl, ?_⟩
      by_cases hm : c ∈ dedup ((seen.map (·.2)).take k)
      · rw [decide_eq_true hm]
        refine iteF (wss_nil (wss_nil ⟨rfl, hg', dI k, ?_⟩))
        rw [eT, dedup_snoc]
        unfold put1
        rw [if_pos hm]
        rfl
      · rw [decide_eq_false hm]
        refine iteT (wss_cons (ws_append 5 ?_))
        walk_at "w"
        walk_at "w"
        walk_at "w"
        walk_at "w"
        refine id_sq hix ?_
        walk_at "w"
        refine cd_tupSq ?_
        refine ⟨_, rfl, ?_, wss_nil (wss_nil ⟨rfl, hg', dI k, ?_⟩)⟩
        · rw [List.length_map]
          have := dedup_len ((seen.map (·.2)).take k)
          rw [List.length_take, List.length_map] at this
          omega
        · rw [eT, dedup_snoc]
          unfold put1
          rw [if_neg hm, List.map_append]
          rfl
    · obtain ⟨rfl, hg, rfl⟩ := hh
      refine ⟨rfl, ?_⟩
      have eb : bad? (BkA.cs ⟨a, st, fa', acts, fs, seen⟩) acts.length = some k := bad_some_at hc hg hgood
      unfold bkW
      rw [show BkA.acts ⟨a, st, fa', acts, fs, seen⟩ = acts from rfl, eb]
      rfl
  rintro ρ' J' ⟨rfl, hgood, r1, rfl⟩
  have eN : (seen.map (·.2)).take (((seen.length : Nat) : Int).toNat) = seen.map (·.2) := by
    rw [Int.toNat_natCast]
    exact List.take_of_length_le (by rw [List.length_map]; exact Nat.le_refl _)
  rw [eN]
  have hgood' : ∀ j c, (seen.map (·.2))[j]? = some c → good c acts.length = true := fun j c hc => by
    refine hgood j ?_ c hc
    have := (List.getElem?_eq_some_iff.mp hc).1
    rw [List.length_map] at this
    simpa using this
  have eb : bad? (BkA.cs ⟨a, st, fa', acts, fs, seen⟩) acts.length = none := bad_none_at hgood'
  have hdl := dedup_len (seen.map (·.2))
  rw [List.length_map] at hdl
  -- if len(rows) > 8
  refine wss_cons (ws_if ?_)
  walk_at "w"
  walk_at "w"
  walk_at "w"
  walk_at "w"
  refine cd_len (n := (dedup (seen.map (·.2))).length) rfl (by show some ((dedup (seen.map (·.2))).map chD).length = _; rw [List.length_map]) (by omega) ?_
  repeat walk_at "w"
  by_cases h8 : (8 : Int) < ((dedup (seen.map (·.2))).length : Int)
  · rw [decide_eq_true h8]
    refine iteT (wss_cons (ws_raise rfl tk hT hr ?_))
    walk_at "w"
    refine ⟨_, rfl, rfl, ?_⟩
    unfold bkW
    rw [show BkA.acts ⟨a, st, fa', acts, fs, seen⟩ = acts from rfl, eb]
    show bkE K (if (dedup (seen.map (·.2))).length ≤ 8 then _ else _) _
    rw [if_neg (by omega)]
    rfl
  rw [decide_eq_false h8]
  refine iteF (wss_nil ?_)
  have hz : ∀ z, (((sBI K).md ⟨a, st, fa', acts, fs, seen⟩).z z → ∀ o, ((sBI K).md ⟨a, st, fa', acts, fs, seen⟩).m z o) := fun z q o => q
  -- self.states = states
  refine wss_cons (ws_fld (fs := []) T.cls T.noat (hz a) Cv.emp (by decide) ?_)
  walk_at "w"
  refine ⟨rfl, (fun z => nomatch z), ?_⟩
  walk_at "w"
  refine ⟨rfl, ?_⟩
  -- self.acts = tuple([tuple(act) for act in acts])
  refine wss_cons (ws_fld (fs := [("states", dI st)]) T.cls T.noat (hz a) Cv.refl (by simp) ?_)
  walk_at "w"
  have hgo : ∀ {Jx : Res} {R : Sl → Prop}, R (.own (acts.map actD)) → We (actOf P w K mg base nBI dBookInit.qual dBookInit.scope (He.fAd K dBookInit.at_) cdv A0 outer s ((sBI K).md ⟨a, st, fa', acts, fs, seen⟩) W0 E ((sBI K).ex ⟨a, st, fa', acts, fs, seen⟩)) (match (dBookInit.body.getD 7 (.Pass ⟨0, 0, 0, 0⟩)) with | .Assign _ (.Call _ [e] _ _) _ => e | _ => .Name "x" ⟨0, 0, 0, 0⟩)
      [.raw (.ref a), dI st, .dat (sq fa' (acts.map actD)), .dat (sq fs (seen.map fun p => chB p.1 p.2)), r1, .own ((dedup (seen.map (·.2))).map chD), .un] Jx R := by
    intro Jx R hR
    cases fa' with
    | false =>
      refine we_lcT [("act", 6)] rfl nd ?_ (ok := blkOk_by (N := nBI) (sc := dBookInit.scope) (by decide +kernel))
      walk_at "w"
      refine ⟨_, rfl, fun i acc => acc = (acts.map actD).take i, rfl, ?_, fun acc he => ?_⟩
      · rintro i d acc hd rfl
        have hlt := (List.getElem?_eq_some_iff.mp hd).1
        rw [List.getElem?_map] at hd
        obtain ⟨ns, hns, rfl⟩ := Option.map_eq_some_iff.mp hd
        refine ⟨[.raw (.ref a), dI st, .dat (sq false (acts.map actD)), .dat (sq fs (seen.map fun p => chB p.1 p.2)), r1, .own ((dedup (seen.map (·.2))).map chD), .dat (actD ns)], true, fun s H C cl fp D => ?_, fun s H C cl fp D => rfl, ?_⟩
        · exact wgc_name 6 rfl nd
        · refine iteT ⟨actD ns, ?_, ?_, fun s H C cl fp D => ?_⟩
          · rw [List.length_take, List.length_map]; omega
          · show (acts.map actD).take i ++ [actD ns] = (acts.map actD).take (i + 1)
            rw [List.take_add_one, List.getElem?_map, hns]; rfl
          · walk_at "w"
            walk_at "w"
            walk_at "w"
            refine cd_tupT ?_
            rfl
      have he : acc = (acts.map actD).take (acts.map actD).length := he
      rw [List.take_length] at he
      subst he
      exact hR
    | true =>
      refine we_lcL [("act", 6)] rfl nd ?_ (ok := blkOk_by (N := nBI) (sc := dBookInit.scope) (by decide +kernel))
      walk_at "w"
      refine ⟨_, rfl, rfl, fun i acc => acc = (acts.map actD).take i, rfl, ?_, fun acc he => ?_⟩
      · rintro i d acc hd rfl
        have hlt := (List.getElem?_eq_some_iff.mp hd).1
        rw [List.getElem?_map] at hd
        obtain ⟨ns, hns, rfl⟩ := Option.map_eq_some_iff.mp hd
        refine ⟨[.raw (.ref a), dI st, .dat (sq true (acts.map actD)), .dat (sq fs (seen.map fun p => chB p.1 p.2)), r1, .own ((dedup (seen.map (·.2))).map chD), .dat (actD ns)], true, fun s H C cl fp D => ?_, fun s H C cl fp D => rfl, ?_⟩
        · exact wgc_name 6 rfl nd
        · refine iteT ⟨actD ns, ?_, ?_, fun s H C cl fp D => ?_⟩
          · rw [List.length_take, List.length_map]; omega
          · show (acts.map actD).take i ++ [actD ns] = (acts.map actD).take (i + 1)
            rw [List.take_add_one, List.getElem?_map, hns]; rfl
          · walk_at "w"
            walk_at "w"
            walk_at "w"
            refine cd_tupT ?_
            rfl
      have he : acc = (acts.map actD).take (acts.map actD).length := he
      rw [List.take_length] at he
      subst he
      exact hR
  refine hgo ?_
  walk_at "w"
  walk_at "w"
  refine ⟨rfl, (fun z => nomatch z), ?_⟩
  walk_at "w"
  refine ⟨rfl, ?_⟩
  -- self.seen = tuple(rows)
  refine wss_cons (ws_fld (fs := [("states", dI st), ("acts", dT (acts.map actD))]) T.cls T.noat (hz a) Cv.refl (by simp) ?_)
  walk_at "w"
  walk_at "w"
  walk_at "w"
  walk_at "w"
  refine ⟨rfl, (fun z => nomatch z), ?_⟩
  walk_at "w"
  refine ⟨rfl, wss_conv Cv.fst (wss_nil ⟨rfl, rfl, ?_⟩)⟩
  · unfold bkW
    rw [show BkA.acts ⟨a, st, fa', acts, fs, seen⟩ = acts from rfl, eb]
    show (if (dedup (seen.map (·.2))).length ≤ 8 then BkW.ok else _) = _
    rw [if_pos (by omega)]
end
end KK

namespace KK
open PySem PySem.Spec PyProof.Rows L2 DL
local macro_rules | `(tactic| walk_at "v") => `(tactic| first
  | refine we_varI ?_
  | refine we_varOI ?_
  | ((with_reducible refine (?_ : We _ (.Name "int" _) _ _ _)); refine we_ty (Tx.f_int (by assumption)) boot_int' ?_)
  | ((with_reducible refine (?_ : We _ (.Name "bool" _) _ _ _)); refine we_ty (Tx.f_bool (by assumption)) boot_bool' ?_)
  | ((with_reducible refine (?_ : We _ (.Name "str" _) _ _ _)); refine we_ty (Tx.f_str (by assumption)) boot_str' ?_)
  | ((with_reducible refine (?_ : We _ (.Name "tuple" _) _ _ _)); refine we_ty (Tx.f_tuple (by assumption)) boot_tuple' ?_)
  | ((with_reducible refine (?_ : We _ (.Name "list" _) _ _ _)); refine we_ty (Tx.f_list (by assumption)) boot_list' ?_)
  | refine we_glob (Tx.int (by assumption)) (fun _ => .int _) ?_)
local macro_rules | `(tactic| walk_at "b") => `(tactic| first
  | ((with_reducible refine (?_ : We _ (.Call (.Name "len" _) _ _ _) _ _ _)); refine we_callB (Tx.f_len (by assumption)) boot_len ?_; refine wa_cons ?_)
  | ((with_reducible refine (?_ : We _ (.Call (.Name "isinstance" _) _ _ _) _ _ _)); refine we_callB (Tx.f_isinstance (by assumption)) DL.boot_isinstance ?_; refine wa_cons ?_)
  | ((with_reducible refine (?_ : We _ (.Call (.Name "max" _) _ _ _) _ _ _)); refine we_callB (Tx.f_max (by assumption)) boot_max' ?_; refine wa_cons ?_)
  | ((with_reducible refine (?_ : We _ (.Call (.Name "min" _) _ _ _) _ _ _)); refine we_callB (Tx.f_min (by assumption)) boot_min' ?_; refine wa_cons ?_)
  | ((with_reducible refine (?_ : We _ (.Call (.Name "int" _) _ _ _) _ _ _)); refine we_callTy (Tx.f_int (by assumption)) boot_int' ?_; refine wa_cons ?_)
  | ((with_reducible refine (?_ : We _ (.Call (.Name "tuple" _) _ _ _) _ _ _)); refine we_callTy (Tx.f_tuple (by assumption)) boot_tuple' ?_; refine wa_cons ?_)
  | ((with_reducible refine (?_ : We _ (.Call (.Name "list" _) _ _ _) _ _ _)); refine we_callTy (Tx.f_list (by assumption)) boot_list' ?_; refine wa_cons ?_))
local macro_rules | `(tactic| walk_at "k") => `(tactic| first | refine we_int ?_ | refine we_str ?_ | refine we_bl ?_ | refine we_non ?_)
local macro_rules | `(tactic| walk_at "o+") => `(tactic| first | refine od_add ?_)
local macro_rules | `(tactic| walk_at "oe") => `(tactic| first | refine od_eqI ?_ | refine od_eqS ?_)
local macro_rules | `(tactic| walk_at "on") => `(tactic| first | refine od_neI ?_ | refine od_neS ?_)
local macro_rules | `(tactic| walk_at "c") => `(tactic| first | refine cd_int ?_ | refine cd_tup rfl ?_ | refine cd_tupT ?_ | refine cd_lst rfl ?_ | refine cd_lstT ?_)
local macro_rules | `(tactic| walk_at "w") => `(tactic| first
  | ((with_reducible refine (?_ : We _ (.Name _ _) _ _ _)); walk_at "v")
  | ((with_reducible refine (?_ : We _ (.Constant _ _ _) _ _ _)); walk_at "k")
  | ((with_reducible refine (?_ : We _ (.Subscript _ (.Slice _ _ _ _) _) _ _ _)); refine we_slice ?_)
  | ((with_reducible refine (?_ : We _ (.Subscript _ _ _) _ _ _)); refine we_ix (fun _ _ => rfl) ?_)
  | ((with_reducible refine (?_ : We _ (.Call _ _ _ _) _ _ _)); walk_at "b")
  | ((with_reducible refine (?_ : We _ (.BinOp _ _ _ _) _ _ _)); refine we_bin ?_)
  | ((with_reducible refine (?_ : We _ (.Compare _ _ _ _) _ _ _)); refine we_cmp rfl ?_)
  | ((with_reducible refine (?_ : We _ (.UnaryOp .USub _ _) _ _ _)); refine we_un ?_)
  | ((with_reducible refine (?_ : We _ (.Tuple _ _ _) _ _ _)); refine we_tup ?_)
  | ((with_reducible refine (?_ : We _ (.List _ _) _ _ _)); refine we_lst ?_)
  | ((with_reducible refine (?_ : Wa _ [] _ _ _)); refine wa_nil ?_)
  | ((with_reducible refine (?_ : Wa _ (_ :: _) _ _ _)); refine wa_cons ?_)
  | ((with_reducible refine (?_ : Wt _ (.Compare _ _ _ _) _ _ _)); refine wt_cmp rfl ?_)
  | ((with_reducible refine (?_ : Wt _ (.UnaryOp .Not _ _) _ _ _)); refine wt_not ?_)
  | ((with_reducible refine (?_ : Wt _ (.BoolOp _ _ _) _ _ _)); refine wt_bool ?_)
  | ((with_reducible refine (?_ : Ww _ (.BoolOp .And (_ :: _ :: _) _) _ _ _)); refine ww_and ?_)
  | ((with_reducible refine (?_ : Ww _ (.BoolOp .Or (_ :: _ :: _) _) _ _ _)); refine ww_or ?_)
  | ((with_reducible refine (?_ : Ww _ (.BoolOp .And _ _) _ _ _)); refine ww_and1 ?_)
  | ((with_reducible refine (?_ : Ww _ (.BoolOp .Or _ _) _ _ _)); refine ww_or1 ?_)
  | ((with_reducible refine (?_ : Wp _ none _ _ _)); refine wp_none ?_)
  | ((with_reducible refine (?_ : Wp _ (some _) _ _ _)); refine wp_some ?_)
  | ((with_reducible refine (?_ : Od _ (binaryOp .Add) _ _ _ _ _)); refine od_add ?_)
  | ((with_reducible refine (?_ : Od _ (binaryOp .Sub) _ _ _ _ _)); refine od_sub ?_)
  | ((with_reducible refine (?_ : Od _ (binaryOp .Mult) _ _ _ _ _)); refine od_mul ?_)
  | ((with_reducible refine (?_ : Od _ (binaryOp .FloorDiv) _ _ _ _ _)); refine od_fdiv ?_)
  | ((with_reducible refine (?_ : Od _ (binaryOp .Mod) _ _ _ _ _)); refine od_mod ?_)
  | ((with_reducible refine (?_ : Od _ (compareOp .Eq) _ _ _ _ _)); walk_at "oe")
  | ((with_reducible refine (?_ : Od _ (compareOp .NotEq) _ _ _ _ _)); walk_at "on")
  | ((with_reducible refine (?_ : Od _ (compareOp .Lt) _ _ _ _ _)); refine od_lt ?_)
  | ((with_reducible refine (?_ : Od _ (compareOp .LtE) _ _ _ _ _)); refine od_le ?_)
  | ((with_reducible refine (?_ : Od _ (compareOp .Gt) _ _ _ _ _)); refine od_gt ?_)
  | ((with_reducible refine (?_ : Od _ (compareOp .GtE) _ _ _ _ _)); refine od_ge ?_)
  | ((with_reducible refine (?_ : Od _ (compareOp .Is) _ _ _ _ _)); refine od_isN ?_)
  | ((with_reducible refine (?_ : Od _ (compareOp .IsNot) _ _ _ _ _)); refine od_isnotN ?_)
  | ((with_reducible refine (?_ : Ud _ _ _ _ _ _)); refine ud_neg ?_)
  | ((with_reducible refine (?_ : Cd _ (.type _) _ _ _ _)); walk_at "c")
  | ((with_reducible refine (?_ : Id _ _ _ (.dat (.tuple _)) _ _)); refine id_tup (by rfl) ?_)
  | ((with_reducible refine (?_ : ∃ k, Sl.dat (PyData.bool _) = Sl.dat (PyData.bool k) ∧ _)); refine ⟨_, rfl, ?_⟩)
  | ((with_reducible refine (?_ : ∃ i, Sl.dat (PyData.int _) = Sl.dat (PyData.int i) ∧ _)); refine ⟨_, rfl, ?_⟩)
  | ((with_reducible refine (?_ : ∃ ds, datsOf _ = some ds ∧ _ ∧ _)); refine ⟨_, rfl, Nat.le_of_ble_eq_true rfl, ?_⟩)
  | ((with_reducible refine (?_ : Id _ _ _ (.dat _) _ _)); refine id_tup (by rfl) ?_))
section
variable {P : Program} {w : World} {K : PySem.W.Frag} {mg : Str → Option Value} {base : Heap}
/-! ### Book.with_seen, Book.told -/
theorem c_BI (T : Tx P K mg) : Mak P w K mg base 7 "Book" (bkC K) ((sBI K).sp K) :=
  mak_of T (b_BI T) rfl T.glo T.mkr (by unfold fn; repeat (first | with_reducible exact List.Mem.head _ | apply List.Mem.tail)) rfl rfl fs_BI (fun _ => rfl) (fun x => rfl) (by decide) (fun _ _ _ _ _ _ us h => match us, h with | [_, _, _, _], _ => rfl)
abbrev bkS (K : PySem.W.Frag) (st : Int) (acts : List (List Int)) (seen : List Ch) : Sl := .fct (insF (bkC K) (bkF st acts seen))
structure BwA where
  st : Int
  acts : List (List Int)
  seen : List Ch
  b : Bool
  c : Ch
abbrev nBW : List Str := ["self", "choice"]
theorem fs_BW : FnScope nBW ["self", "choice"] dBookWith.scope := ⟨rfl, rfl, rfl, by decide +kernel, rfl, by decide +kernel, by decide +kernel⟩
def sBW (K : PySem.W.Frag) : Spec BwA where
  args := fun x => [bkS K x.st x.acts x.seen, .dat (chB x.b x.c)]
  pre := fun x => actsOk x.acts x.st ∧ x.seen.length ≤ 100
  rt := fun x r J => J = .emp ∧ bkW (x.seen ++ [x.c]) x.acts.length = .ok
  ex := fun x e J => J = .emp ∧ bkE K (bkW (x.seen ++ [x.c]) x.acts.length) e
theorem bw_cs (seen : List Ch) (b : Bool) (c : Ch) : ((seen.map fun c => (false, c)) ++ [(b, c)]).map (·.2) = seen ++ [c] := by
  rw [List.map_append, List.map_map]
  congr 1
  exact List.map_id _
theorem b_BW (T : Tx P K mg) : Body P w K mg base dBookWith nBW (sBW K) 9 := by
  rintro ⟨st, acts, seen, b, c⟩ cdv A0 outer s W0 E hr ⟨hacts, hsl⟩
  have hsl : seen.length ≤ 100 := hsl
  have tk : Takes (actOf P w K mg base nBW dBookWith.qual dBookWith.scope (He.fAd K dBookWith.at_) cdv A0 outer s ((sBW K).md ⟨st, acts, seen, b, c⟩) W0 E ((sBW K).ex ⟨st, acts, seen, b, c⟩)).X fun cls d _ H => E cls d H := takes_of rfl rfl rfl rfl
  refine wss_cons (ws_ret (we_makeF (c_BI T) hr (by decide) tk ?_))
  walk_at "w"
  refine we_fldF (C := bkC K) T.cls T.noat ?_
  walk_at "w"
  refine ⟨_, _, rfl, rfl, ?_⟩
  walk_at "w"
  refine we_fldF (C := bkC K) T.cls T.noat ?_
  walk_at "w"
  refine ⟨_, _, rfl, rfl, ?_⟩
  walk_at "w"
  walk_at "w"
  refine we_fldF (C := bkC K) T.cls T.noat ?_
  walk_at "w"
  refine ⟨_, _, rfl, rfl, ?_⟩
  walk_at "w"
  walk_at "w"
  walk_at "w"
  walk_at "w"
  walk_at "w"
  refine od_addT (by rw [List.length_map]; show seen.length + 1 ≤ _; omega) ?_
  walk_at "w"
  intro a
  refine ⟨⟨a, st, false, acts, false, (seen.map fun c => (false, c)) ++ [(b, c)]⟩, ?_, rfl, ⟨hacts, ?_⟩, rfl, fun z o q => q, fun r J' hh => ?_, fun e J' hh => ?_⟩
  · show _ = [Sl.raw (.ref a), dI st, dT (acts.map actD), .dat (.tuple (List.map (fun p : Bool × Ch => chB p.1 p.2) ((seen.map fun c => (false, c)) ++ [(b, c)])))]
    rw [List.map_append, List.map_map]
    rfl
  · show List.length (_ ++ _) ≤ _
    rw [List.length_append, List.length_map]
    show seen.length + 1 ≤ 1000
    omega
  · obtain ⟨rfl, rfl, hh⟩ := hh
    refine ⟨rfl, _, rfl, rfl, ?_⟩
    rw [show BkA.cs ⟨a, st, false, acts, false, (seen.map fun c => (false, c)) ++ [(b, c)]⟩ = seen ++ [c] from bw_cs seen b c] at hh
    exact hh
  · obtain ⟨rfl, hh⟩ := hh
    rw [show BkA.cs ⟨a, st, false, acts, false, (seen.map fun c => (false, c)) ++ [(b, c)]⟩ = seen ++ [c] from bw_cs seen b c] at hh
    exact ⟨rfl, hh⟩
theorem c_BW (T : Tx P K mg) : Met P w K mg base 10 (bkC K) "with_seen" ((sBW K).sp K) :=
  met_of T (b_BW T) rfl T.cls T.meth (by unfold fn; repeat (first | with_reducible exact List.Mem.head _ | apply List.Mem.tail)) rfl rfl fs_BW (fun _ => rfl) (fun x => rfl) (by decide) (fun _ _ _ _ _ _ us h => match us, h with | [_, _], _ => rfl)
abbrev nBT : List Str := ["self"]
theorem fs_BT : FnScope nBT ["self"] dBookTold.scope := ⟨rfl, rfl, rfl, by decide +kernel, rfl, by decide +kernel, by decide +kernel⟩
def bkD (st : Int) (acts : List (List Int)) (seen : List Ch) : PyData := .tuple [.int st, .tuple (acts.map actD), .tuple (seen.map chD)]
def sBT (K : PySem.W.Frag) : Spec (Int × List (List Int) × List Ch) where
  args := fun x => [bkS K x.1 x.2.1 x.2.2]
  rt := fun x r J => J = .emp ∧ r = .dat (bkD x.1 x.2.1 x.2.2)
theorem b_BT (T : Tx P K mg) : Body P w K mg base dBookTold nBT (sBT K) 0 := by
  rintro ⟨st, acts, seen⟩ cdv A0 outer s W0 E hr _
  refine wss_cons (ws_ret ?_)
  walk_at "w"
  walk_at "w"
  refine we_fldF (C := bkC K) T.cls T.noat ?_
  walk_at "w"
  refine ⟨_, _, rfl, rfl, ?_⟩
  walk_at "w"
  refine we_fldF (C := bkC K) T.cls T.noat ?_
  walk_at "w"
  refine ⟨_, _, rfl, rfl, ?_⟩
  walk_at "w"
  refine we_fldF (C := bkC K) T.cls T.noat ?_
  walk_at "w"
  refine ⟨_, _, rfl, rfl, ?_⟩
  walk_at "w"
  walk_at "w"
  exact ⟨rfl, rfl⟩
theorem c_BT (T : Tx P K mg) : Met P w K mg base 1 (bkC K) "told" ((sBT K).sp K) :=
  met_of T (b_BT T) rfl T.cls T.meth (by unfold fn; repeat (first | with_reducible exact List.Mem.head _ | apply List.Mem.tail)) rfl rfl fs_BT (fun _ => rfl) (fun x => rfl) (by decide) (fun _ _ _ _ _ _ us h => match us, h with | [_], _ => rfl)
end
end KK

namespace KK
open PySem PySem.Spec PyProof.Rows L2 DL
/-! ### plain: a house of deeds -/
structure Row where
  key : Int
  name : Str
  c : Ch
deriving DecidableEq
def rowD (r : Row) : PyData := .tuple [.int r.key, .str r.name, chD r.c]
def chs (rows : List Row) (name : Str) : List Ch := (rows.filter fun r => decide (r.name = name)).map (·.c)
def seenOf (rows : List Row) (name : Str) : List Ch := dedup (chs rows name)
inductive Ref where
  | noMind (n : Str) | full | bad (p : Nat) | many | noEntry (k : Int)
def Ref.nm : Ref → Str
  | .noMind _ => "NoMind"
  | .full => "TooMany"
  | .bad _ => "BadChoice"
  | .many => "TooMany"
  | .noEntry _ => "NoEntry"
def Ref.f : Ref → Str
  | .noMind _ => "name"
  | .full => "limit"
  | .bad _ => "place"
  | .many => "limit"
  | .noEntry _ => "key"
def Ref.d : Ref → PyData
  | .noMind n => .str n
  | .full => .int 24
  | .bad p => .int p
  | .many => .int 8
  | .noEntry k => .int k
def refD (r : Ref) : PyData := .tuple [.str "refused", .list [.tuple [.str r.nm, r.d]]]
def toldD (d : PyData) : PyData := .tuple [.str "told", d]
abbrev Out := Except Ref PyData
def outD : Out → PyData
  | .ok d => toldD d
  | .error r => refD r
def refusal (rows : List Row) (names : List Str) (many : Int) (name : Str) (c : Ch) : Option Ref :=
  if name ∈ names then if rows.length < 24 then if good c many = true then if c ∈ seenOf rows name then none else if (seenOf rows name).length = 8 then some .many else none else some (.bad (seenOf rows name).length) else some .full else some (.noMind name)
structure Hs where
  rows : List Row
  last : Int
  past : List (List Row)
inductive Deed where
  | see (n : Str) (c : Ch) | late (k : Int) (n : Str) (c : Ch) | back (k : Int) | all (n : Str) (cs : List Ch) | undo
def deedD : Deed → PyData
  | .see n c => .tuple [.str "see", .str n, chD c]
  | .late k n c => .tuple [.str "late", .int k, .str n, chD c]
  | .back k => .tuple [.str "back", .int k]
  | .all n cs => .tuple [.str "all", .str n, .list (cs.map chD)]
  | .undo => .tuple [.str "undo"]
def addAll (names : List Str) (many : Int) (name : Str) (last : Int) : List Ch → List Row → Nat → Except Ref (List Row)
  | [], rows, _ => .ok rows
  | c :: cs, rows, n => match refusal rows names many name c with
    | some r => .error r
    | none => addAll names many name last cs (rows ++ [⟨last + n + 1, name, c⟩]) (n + 1)
def keysFrom (last : Int) (n : Nat) : List PyData := (List.range n).map fun (i : Nat) => PyData.int (last + (i : Int) + 1)
def placeOf (rows : List Row) (k : Int) : Option Nat := rows.findIdx? fun r => decide (r.key = k)
def Hs.add (m : Hs) (rows : List Row) (last : Int) : Hs := ⟨rows, last, m.past ++ [m.rows]⟩
def insAt (rows : List Row) (i : Nat) (r : Row) : List Row := rows.take i ++ [r] ++ rows.drop i
def outAt (rows : List Row) (i : Nat) : List Row := rows.take i ++ rows.drop (i + 1)
def stepP (names : List Str) (many : Int) (m : Hs) : Deed → Out × Hs
  | .undo => match m.past.getLast? with
    | none => (.ok (.bool false), m)
    | some rows => (.ok (.bool true), ⟨rows, m.last, m.past.dropLast⟩)
  | .back k => match placeOf m.rows k with
    | none => (.error (.noEntry k), m)
    | some i => (.ok .none, m.add (outAt m.rows i) m.last)
  | .see n c => match refusal m.rows names many n c with
    | some r => (.error r, m)
    | none => (.ok (.int (m.last + 1)), m.add (m.rows ++ [⟨m.last + 1, n, c⟩]) (m.last + 1))
  | .late k n c => match placeOf m.rows k with
    | none => (.error (.noEntry k), m)
    | some i => match refusal m.rows names many n c with
      | some r => (.error r, m)
      | none => (.ok (.int (m.last + 1)), m.add (insAt m.rows i ⟨m.last + 1, n, c⟩) (m.last + 1))
  | .all n cs => if n ∈ names then match addAll names many n m.last cs m.rows 0 with
      | .error r => (.error r, m)
      | .ok rows => (.ok (.tuple (keysFrom m.last cs.length)), m.add rows (m.last + cs.length))
    else (.error (.noMind n), m)
/-! what stands -/
structure RowsOk (many : Int) (rows : List Row) : Prop where
  len : rows.length ≤ 24
  good : ∀ r ∈ rows, good r.c many = true
  few : ∀ name, (seenOf rows name).length ≤ 8
structure HsOk (many : Int) (m : Hs) : Prop where
  rows : RowsOk many m.rows
  past : ∀ rs ∈ m.past, RowsOk many rs
theorem len_sub {α : Type} [DecidableEq α] : ∀ {xs ys : List α}, xs.Nodup → (∀ x ∈ xs, x ∈ ys) → xs.length ≤ ys.length
  | [], _, _, _ => Nat.zero_le _
  | x :: r, ys, hn, hs => by
    obtain ⟨h1, h2⟩ := List.nodup_cons.mp hn
    have hx := hs x List.mem_cons_self
    have ih := len_sub (xs := r) (ys := ys.erase x) h2 fun y hy => (List.mem_erase_of_ne (fun e => h1 (by rw [← e]; exact hy))).mpr (hs y (List.mem_cons_of_mem _ hy))
    rw [List.length_erase_of_mem hx] at ih
    have : 0 < ys.length := List.length_pos_of_mem hx
    show r.length + 1 ≤ _
    omega
theorem put1_nodup {α : Type} [DecidableEq α] {acc : List α} {x : α} (h : acc.Nodup) : (put1 acc x).Nodup := by
  unfold put1
  split
  · exact h
  · rename_i hx
    rw [List.nodup_append]
    refine ⟨h, by simp, fun a ha b hb => ?_⟩
    rw [List.mem_singleton] at hb
    subst hb
    exact fun e => hx (by rw [← e]; exact ha)
theorem dedup_nodup {α : Type} [DecidableEq α] (xs : List α) : (dedup xs).Nodup := by
  have key : ∀ (xs acc : List α), acc.Nodup → (xs.foldl put1 acc).Nodup := fun xs => by
    induction xs with
    | nil => intro acc h; exact h
    | cons x r ih => intro acc h; exact ih _ (put1_nodup h)
  exact key xs [] List.nodup_nil
theorem dedup_id {α : Type} [DecidableEq α] {xs : List α} (h : xs.Nodup) : dedup xs = xs := by
  have key : ∀ (xs acc : List α), (acc ++ xs).Nodup → xs.foldl put1 acc = acc ++ xs := fun xs => by
    induction xs with
    | nil => intro acc _; simp
    | cons x r ih =>
      intro acc h
      have hx : x ∉ acc := fun hx => (List.nodup_append.mp h).2.2 x hx x List.mem_cons_self rfl
      show r.foldl put1 (put1 acc x) = _
      have e : put1 acc x = acc ++ [x] := if_neg hx
      have e2 : acc ++ x :: r = acc ++ [x] ++ r := by rw [List.append_assoc]; rfl
      rw [e, ih _ (by rw [← e2]; exact h), ← e2]
  exact key xs [] (by simpa using h)
theorem dedup_sub {α : Type} [DecidableEq α] {xs ys : List α} (h : ∀ x ∈ xs, x ∈ ys) : (dedup xs).length ≤ (dedup ys).length :=
  len_sub (dedup_nodup xs) fun x hx => dedup_mem.mpr (h x (dedup_mem.mp hx))
theorem chs_mem {rows : List Row} {name : Str} {c : Ch} : c ∈ chs rows name ↔ ∃ r ∈ rows, r.name = name ∧ r.c = c := by
  unfold chs
  rw [List.mem_map]
  constructor
  · rintro ⟨r, hr, rfl⟩
    obtain ⟨h1, h2⟩ := List.mem_filter.mp hr
    exact ⟨r, h1, of_decide_eq_true h2, rfl⟩
  · rintro ⟨r, h1, h2, rfl⟩
    exact ⟨r, List.mem_filter.mpr ⟨h1, decide_eq_true h2⟩, rfl⟩
theorem seenOf_sub {rows rows' : List Row} {name : Str} (h : ∀ r ∈ rows', r ∈ rows) : (seenOf rows' name).length ≤ (seenOf rows name).length := dedup_sub fun c hc => by
  obtain ⟨r, h1, h2⟩ := chs_mem.mp hc
  exact chs_mem.mpr ⟨r, h r h1, h2⟩
section
variable {many : Int} {rows : List Row} {name : Str} {c : Ch} {names : List Str}
theorem RowsOk.sub {rows' : List Row} (h : RowsOk many rows) (hl : rows'.length ≤ 24) (hs : ∀ r ∈ rows', r ∈ rows) : RowsOk many rows' :=
  ⟨hl, fun r hr => h.good r (hs r hr), fun n => Nat.le_trans (seenOf_sub hs) (h.few n)⟩
theorem RowsOk.add {rows' : List Row} {k : Int} (h : RowsOk many rows) (hr : refusal rows names many name c = none) (hl : rows'.length = rows.length + 1) (hs : ∀ r ∈ rows', r = ⟨k, name, c⟩ ∨ r ∈ rows) : RowsOk many rows' := by
  unfold refusal at hr
  split at hr
  · split at hr
    · rename_i hl24
      split at hr
      · rename_i hg
        refine ⟨by omega, fun r hr => ?_, fun n => ?_⟩
        · rcases hs r hr with e | e
          · subst e; exact hg
          · exact h.good r e
        · have h1 : (seenOf rows' n).length ≤ (dedup (chs rows n ++ [c])).length := dedup_sub fun d hd => by
            obtain ⟨r, r1, r2, r3⟩ := chs_mem.mp hd
            rcases hs r r1 with e | e
            · subst e
              exact List.mem_append_right _ (by rw [← r3]; exact List.mem_singleton.mpr rfl)
            · exact List.mem_append_left _ (chs_mem.mpr ⟨r, e, r2, r3⟩)
          by_cases hn : n = name
          · subst hn
            rw [dedup_snoc] at h1
            have hf := h.few n
            have e1 : dedup (chs rows n) = seenOf rows n := rfl
            rw [e1] at h1
            unfold put1 at h1
            by_cases hm : c ∈ seenOf rows n
            · rw [if_pos hm] at h1; omega
            · rw [if_neg hm] at h1 hr
              rw [List.length_append] at h1
              have h1 : (seenOf rows' n).length ≤ (seenOf rows n).length + 1 := h1
              split at hr
              · cases hr
              · omega
          · refine Nat.le_trans ?_ (h.few n)
            refine dedup_sub fun d hd => ?_
            obtain ⟨r, r1, r2, r3⟩ := chs_mem.mp hd
            rcases hs r r1 with e | e
            · subst e; exact absurd r2 (fun z => hn z.symm)
            · exact chs_mem.mpr ⟨r, e, r2, r3⟩
      · cases hr
    · cases hr
  · cases hr
theorem RowsOk.nil : RowsOk many [] := ⟨Nat.zero_le _, fun r h => absurd h List.not_mem_nil, fun n => Nat.zero_le _⟩
theorem outAt_mem {i : Nat} {r : Row} (h : r ∈ outAt rows i) : r ∈ rows := by
  unfold outAt at h
  rcases List.mem_append.mp h with h | h
  · exact List.mem_of_mem_take h
  · exact List.mem_of_mem_drop h
theorem outAt_len {i : Nat} : (outAt rows i).length ≤ rows.length := by
  unfold outAt
  rw [List.length_append, List.length_take, List.length_drop]
  omega
theorem insAt_mem {i : Nat} {r x : Row} (h : r ∈ insAt rows i x) : r = x ∨ r ∈ rows := by
  unfold insAt at h
  rcases List.mem_append.mp h with h | h
  · rcases List.mem_append.mp h with h | h
    · exact .inr (List.mem_of_mem_take h)
    · exact .inl (List.mem_singleton.mp h)
  · exact .inr (List.mem_of_mem_drop h)
theorem insAt_len {i : Nat} {x : Row} (hi : i ≤ rows.length) : (insAt rows i x).length = rows.length + 1 := by
  unfold insAt
  rw [List.length_append, List.length_append, List.length_take, List.length_drop]
  show min i rows.length + 1 + _ = _
  omega
theorem placeOf_lt {k : Int} {i : Nat} (h : placeOf rows k = some i) : i < rows.length := (List.findIdx?_eq_some_iff_getElem.mp h).1
theorem addAll_ok {last : Int} : ∀ {cs : List Ch} {rows rows' : List Row} {n : Nat}, RowsOk many rows → addAll names many name last cs rows n = .ok rows' → RowsOk many rows'
  | [], rows, rows', n, h, e => by
    cases e
    exact h
  | c :: cs, rows, rows', n, h, e => by
    unfold addAll at e
    cases q : refusal rows names many name c with
    | some r => rw [q] at e; cases e
    | none =>
      rw [q] at e
      refine addAll_ok (h.add q (k := last + n + 1) ?_ fun r hr => ?_) e
      · rw [List.length_append]; rfl
      · rcases List.mem_append.mp hr with z | z
        · exact .inr z
        · exact .inl (List.mem_singleton.mp z)
theorem HsOk.plus {m : Hs} {rows : List Row} {last : Int} (h : HsOk many m) (hr : RowsOk many rows) : HsOk many (m.add rows last) := ⟨hr, fun rs hrs => by
  rcases List.mem_append.mp hrs with z | z
  · exact h.past rs z
  · rw [List.mem_singleton.mp z]; exact h.rows⟩
theorem stepP_ok {m : Hs} (h : HsOk many m) (d : Deed) : HsOk many (stepP names many m d).2 := by
  cases d with
  | undo =>
    simp only [stepP]
    split
    · exact h
    · rename_i rows e
      exact ⟨h.past rows (List.mem_of_getLast? e), fun rs hrs => h.past rs (List.dropLast_subset _ hrs)⟩
  | back k =>
    simp only [stepP]
    split
    · exact h
    · exact h.plus (h.rows.sub (Nat.le_trans outAt_len h.rows.len) fun r hr => outAt_mem hr)
  | see n c =>
    simp only [stepP]
    split
    · exact h
    · rename_i e
      exact h.plus (h.rows.add e (k := m.last + 1) (by rw [List.length_append]; rfl) fun r hr => by
        rcases List.mem_append.mp hr with z | z
        · exact .inr z
        · exact .inl (List.mem_singleton.mp z))
  | late k n c =>
    simp only [stepP]
    split
    · exact h
    · rename_i i hi
      split
      · exact h
      · rename_i e
        exact h.plus (h.rows.add e (k := m.last + 1) (insAt_len (Nat.le_of_lt (placeOf_lt hi))) fun r hr => insAt_mem hr)
  | all n cs =>
    simp only [stepP]
    split
    · split
      · exact h
      · rename_i rows e
        exact h.plus (addAll_ok h.rows e)
    · exact h
theorem stepP_past {m : Hs} {d : Deed} : (stepP names many m d).2.past.length ≤ m.past.length + 1 := by
  cases d <;> simp only [stepP] <;> (repeat' split) <;> first | exact Nat.le_succ _ | (show (m.past.dropLast).length ≤ _; rw [List.length_dropLast]; omega) | (show (m.past ++ [m.rows]).length ≤ _; rw [List.length_append]; exact Nat.le_refl _)
/-- the making of the book with one choice more says what the refusal says -/
theorem bkW_in (h : RowsOk many rows) : bkW (chs rows name) many = .ok := by
  unfold bkW
  have e : bad? (chs rows name) many = none := bad_none_at fun j c hc => by
    obtain ⟨r, r1, _, r3⟩ := chs_mem.mp (List.mem_of_getElem? hc)
    rw [← r3]
    exact h.good r r1
  rw [e]
  show (if (seenOf rows name).length ≤ 8 then BkW.ok else BkW.many) = _
  rw [if_pos (h.few name)]
theorem seen_good (h : RowsOk many rows) : ∀ x ∈ seenOf rows name, good x many = true := fun x hx => by
  obtain ⟨r, r1, _, r3⟩ := chs_mem.mp (dedup_mem.mp hx)
  rw [← r3]
  exact h.good r r1
def bkRef : BkW → Option Ref
  | .ok => none
  | .badC p => some (.bad p)
  | .many => some .many
theorem bkW_with (h : RowsOk many rows) (hn : name ∈ names) (hl : rows.length < 24) : refusal rows names many name c = bkRef (bkW (seenOf rows name ++ [c]) many) := by
  have hg := seen_good (name := name) h
  unfold refusal
  rw [if_pos hn, if_pos hl]
  by_cases g : good c many = true
  · rw [if_pos g]
    have e : bad? (seenOf rows name ++ [c]) many = none := bad_none_at fun j x hx => by
      rcases List.mem_append.mp (List.mem_of_getElem? hx) with z | z
      · exact hg x z
      · rw [List.mem_singleton.mp z]; exact g
    unfold bkW
    rw [e]
    show _ = bkRef (if (dedup (seenOf rows name ++ [c])).length ≤ 8 then BkW.ok else BkW.many)
    rw [dedup_snoc, dedup_id (xs := seenOf rows name) (dedup_nodup _)]
    unfold put1
    have hf := h.few name
    by_cases hm : c ∈ seenOf rows name
    · rw [if_pos hm, if_pos hm, if_pos hf]; rfl
    · rw [if_neg hm, if_neg hm, List.length_append]
      show _ = bkRef (if (seenOf rows name).length + 1 ≤ 8 then BkW.ok else BkW.many)
      by_cases h8 : (seenOf rows name).length = 8
      · rw [if_pos h8, if_neg (by omega)]; rfl
      · rw [if_neg h8, if_pos (by omega)]; rfl
  · rw [if_neg g]
    have e : bad? (seenOf rows name ++ [c]) many = some (seenOf rows name).length := bad_some_at (c := c) (by rw [List.getElem?_append_right (Nat.le_refl _), Nat.sub_self]; rfl) (by simpa using g) fun j hj x hx => by
      rw [List.getElem?_append_left hj] at hx
      exact hg x (List.mem_of_getElem? hx)
    unfold bkW
    rw [e]
    rfl
end
theorem any_str (zs : List Str) (z : Str) : ((zs.map PyData.str).any fun y => PyData.eqv y (.str z)) = decide (z ∈ zs) := by
  induction zs with
  | nil => rfl
  | cons x r ih =>
    show (PyData.eqv (.str x) (.str z) || (r.map PyData.str).any _) = _
    rw [ih, eqv_str, Bool.eq_iff_iff]
    simp only [Bool.or_eq_true, decide_eq_true_eq, List.mem_cons]
    exact ⟨fun h => h.imp Eq.symm id, fun h => h.imp Eq.symm id⟩
theorem flat_strs (zs : List Str) : (zs.map PyData.str).all flatD = true := by
  induction zs with
  | nil => rfl
  | cons x r ih => show (flatD (.str x) && _) = true; rw [ih]; rfl
end KK

namespace KK
open PySem PySem.Spec PyProof.Rows L2 DL
local macro_rules | `(tactic| walk_at "v") => `(tactic| first
  | refine we_varI ?_
  | refine we_varOI ?_
  | ((with_reducible refine (?_ : We _ (.Name "int" _) _ _ _)); refine we_ty (Tx.f_int (by assumption)) boot_int' ?_)
  | ((with_reducible refine (?_ : We _ (.Name "bool" _) _ _ _)); refine we_ty (Tx.f_bool (by assumption)) boot_bool' ?_)
  | ((with_reducible refine (?_ : We _ (.Name "str" _) _ _ _)); refine we_ty (Tx.f_str (by assumption)) boot_str' ?_)
  | ((with_reducible refine (?_ : We _ (.Name "tuple" _) _ _ _)); refine we_ty (Tx.f_tuple (by assumption)) boot_tuple' ?_)
  | ((with_reducible refine (?_ : We _ (.Name "list" _) _ _ _)); refine we_ty (Tx.f_list (by assumption)) boot_list' ?_)
  | refine we_glob (Tx.int (by assumption)) (fun _ => .int _) ?_)
local macro_rules | `(tactic| walk_at "b") => `(tactic| first
  | ((with_reducible refine (?_ : We _ (.Call (.Name "len" _) _ _ _) _ _ _)); refine we_callB (Tx.f_len (by assumption)) boot_len ?_; refine wa_cons ?_)
  | ((with_reducible refine (?_ : We _ (.Call (.Name "isinstance" _) _ _ _) _ _ _)); refine we_callB (Tx.f_isinstance (by assumption)) DL.boot_isinstance ?_; refine wa_cons ?_)
  | ((with_reducible refine (?_ : We _ (.Call (.Name "max" _) _ _ _) _ _ _)); refine we_callB (Tx.f_max (by assumption)) boot_max' ?_; refine wa_cons ?_)
  | ((with_reducible refine (?_ : We _ (.Call (.Name "min" _) _ _ _) _ _ _)); refine we_callB (Tx.f_min (by assumption)) boot_min' ?_; refine wa_cons ?_)
  | ((with_reducible refine (?_ : We _ (.Call (.Name "int" _) _ _ _) _ _ _)); refine we_callTy (Tx.f_int (by assumption)) boot_int' ?_; refine wa_cons ?_)
  | ((with_reducible refine (?_ : We _ (.Call (.Name "tuple" _) _ _ _) _ _ _)); refine we_callTy (Tx.f_tuple (by assumption)) boot_tuple' ?_; refine wa_cons ?_)
  | ((with_reducible refine (?_ : We _ (.Call (.Name "list" _) _ _ _) _ _ _)); refine we_callTy (Tx.f_list (by assumption)) boot_list' ?_; refine wa_cons ?_))
local macro_rules | `(tactic| walk_at "k") => `(tactic| first | refine we_int ?_ | refine we_str ?_ | refine we_bl ?_ | refine we_non ?_)
local macro_rules | `(tactic| walk_at "o+") => `(tactic| first | refine od_add ?_)
local macro_rules | `(tactic| walk_at "oe") => `(tactic| first | refine od_eqI ?_ | refine od_eqS ?_)
local macro_rules | `(tactic| walk_at "on") => `(tactic| first | refine od_neI ?_ | refine od_neS ?_)
local macro_rules | `(tactic| walk_at "c") => `(tactic| first | refine cd_int ?_ | refine cd_tup rfl ?_ | refine cd_tupT ?_ | refine cd_lst rfl ?_ | refine cd_lstT ?_)
local macro_rules | `(tactic| walk_at "w") => `(tactic| first
  | ((with_reducible refine (?_ : We _ (.Name _ _) _ _ _)); walk_at "v")
  | ((with_reducible refine (?_ : We _ (.Constant _ _ _) _ _ _)); walk_at "k")
  | ((with_reducible refine (?_ : We _ (.Subscript _ (.Slice _ _ _ _) _) _ _ _)); refine we_slice ?_)
  | ((with_reducible refine (?_ : We _ (.Subscript _ _ _) _ _ _)); refine we_ix (fun _ _ => rfl) ?_)
  | ((with_reducible refine (?_ : We _ (.Call _ _ _ _) _ _ _)); walk_at "b")
  | ((with_reducible refine (?_ : We _ (.BinOp _ _ _ _) _ _ _)); refine we_bin ?_)
  | ((with_reducible refine (?_ : We _ (.Compare _ _ _ _) _ _ _)); refine we_cmp rfl ?_)
  | ((with_reducible refine (?_ : We _ (.UnaryOp .USub _ _) _ _ _)); refine we_un ?_)
  | ((with_reducible refine (?_ : We _ (.Tuple _ _ _) _ _ _)); refine we_tup ?_)
  | ((with_reducible refine (?_ : We _ (.List _ _) _ _ _)); refine we_lst ?_)
  | ((with_reducible refine (?_ : Wa _ [] _ _ _)); refine wa_nil ?_)
  | ((with_reducible refine (?_ : Wa _ (_ :: _) _ _ _)); refine wa_cons ?_)
  | ((with_reducible refine (?_ : Wt _ (.Compare _ _ _ _) _ _ _)); refine wt_cmp rfl ?_)
  | ((with_reducible refine (?_ : Wt _ (.UnaryOp .Not _ _) _ _ _)); refine wt_not ?_)
  | ((with_reducible refine (?_ : Wt _ (.BoolOp _ _ _) _ _ _)); refine wt_bool ?_)
  | ((with_reducible refine (?_ : Ww _ (.BoolOp .And (_ :: _ :: _) _) _ _ _)); refine ww_and ?_)
  | ((with_reducible refine (?_ : Ww _ (.BoolOp .Or (_ :: _ :: _) _) _ _ _)); refine ww_or ?_)
  | ((with_reducible refine (?_ : Ww _ (.BoolOp .And _ _) _ _ _)); refine ww_and1 ?_)
  | ((with_reducible refine (?_ : Ww _ (.BoolOp .Or _ _) _ _ _)); refine ww_or1 ?_)
  | ((with_reducible refine (?_ : Wp _ none _ _ _)); refine wp_none ?_)
  | ((with_reducible refine (?_ : Wp _ (some _) _ _ _)); refine wp_some ?_)
  | ((with_reducible refine (?_ : Od _ (binaryOp .Add) _ _ _ _ _)); refine od_add ?_)
  | ((with_reducible refine (?_ : Od _ (binaryOp .Sub) _ _ _ _ _)); refine od_sub ?_)
  | ((with_reducible refine (?_ : Od _ (binaryOp .Mult) _ _ _ _ _)); refine od_mul ?_)
  | ((with_reducible refine (?_ : Od _ (binaryOp .FloorDiv) _ _ _ _ _)); refine od_fdiv ?_)
  | ((with_reducible refine (?_ : Od _ (binaryOp .Mod) _ _ _ _ _)); refine od_mod ?_)
  | ((with_reducible refine (?_ : Od _ (compareOp .Eq) _ _ _ _ _)); walk_at "oe")
  | ((with_reducible refine (?_ : Od _ (compareOp .NotEq) _ _ _ _ _)); walk_at "on")
  | ((with_reducible refine (?_ : Od _ (compareOp .Lt) _ _ _ _ _)); refine od_lt ?_)
  | ((with_reducible refine (?_ : Od _ (compareOp .LtE) _ _ _ _ _)); refine od_le ?_)
  | ((with_reducible refine (?_ : Od _ (compareOp .Gt) _ _ _ _ _)); refine od_gt ?_)
  | ((with_reducible refine (?_ : Od _ (compareOp .GtE) _ _ _ _ _)); refine od_ge ?_)
  | ((with_reducible refine (?_ : Od _ (compareOp .Is) _ _ _ _ _)); refine od_isN ?_)
  | ((with_reducible refine (?_ : Od _ (compareOp .IsNot) _ _ _ _ _)); refine od_isnotN ?_)
  | ((with_reducible refine (?_ : Ud _ _ _ _ _ _)); refine ud_neg ?_)
  | ((with_reducible refine (?_ : Cd _ (.type _) _ _ _ _)); walk_at "c")
  | ((with_reducible refine (?_ : Id _ _ _ (.dat (.tuple _)) _ _)); refine id_tup (by rfl) ?_)
  | ((with_reducible refine (?_ : ∃ k, Sl.dat (PyData.bool _) = Sl.dat (PyData.bool k) ∧ _)); refine ⟨_, rfl, ?_⟩)
  | ((with_reducible refine (?_ : ∃ i, Sl.dat (PyData.int _) = Sl.dat (PyData.int i) ∧ _)); refine ⟨_, rfl, ?_⟩)
  | ((with_reducible refine (?_ : ∃ ds, datsOf _ = some ds ∧ _ ∧ _)); refine ⟨_, rfl, Nat.le_of_ble_eq_true rfl, ?_⟩)
  | ((with_reducible refine (?_ : Id _ _ _ (.dat _) _ _)); refine id_tup (by rfl) ?_))
section
variable {P : Program} {w : World} {K : PySem.W.Frag} {mg : Str → Option Value} {base : Heap}
/-! ### House: what stands, and what is read -/
structure HA where
  a : Addr
  p : Addr
  st : Int
  acts : List (List Int)
  names : List Str
  m : Hs
abbrev hsC (K : PySem.W.Frag) : Addr := He.ga K "House"
def rowsT (rows : List Row) : PyData := .tuple (rows.map rowD)
def hsF (K : PySem.W.Frag) (x : HA) (m : Hs) : List (Str × Sl) := [("_plain", bkS K x.st x.acts []), ("names", dT (x.names.map .str)), ("_rows", .dat (rowsT m.rows)), ("_past", .raw (.ref x.p)), ("_last_key", dI m.last)]
def hsR (K : PySem.W.Frag) (x : HA) (m : Hs) : Res := (Res.ins K x.a (hsC K) (hsF K x m)).star (Res.lst K x.p (m.past.map rowsT))
structure HaOk (x : HA) : Prop where
  acts : actsOk x.acts x.st
  names : x.names.length ≤ 1000
  hs : HsOk x.acts.length x.m
  past : x.m.past.length ≤ 10000
theorem hs_ins {x : HA} {m : Hs} : ∀ B H, (hsR K x m).P B H → (Res.ins K x.a (hsC K) (hsF K x m)).P B H := fun _ _ h => h.1
def refE (K : PySem.W.Frag) (r : Ref) : Exn := ⟨He.ga K r.nm, r.f, r.d⟩
local macro_rules | `(tactic| walk_at "hf") => `(tactic| (refine we_fld (C := hsC _) (Tx.cls (by assumption)) (Tx.noat (by assumption)) ?_; walk_at "w"; refine ⟨_, _, _, rfl, hs_ins, rfl, ?_⟩))
theorem chs_snoc (rows : List Row) (r : Row) (name : Str) : chs (rows ++ [r]) name = chs rows name ++ if r.name = name then [r.c] else [] := by
  unfold chs
  rw [List.filter_append, List.map_append]
  by_cases h : r.name = name
  · simp [h]
  · simp [h]
theorem chs_len (rows : List Row) (name : Str) : (chs rows name).length ≤ rows.length := by
  unfold chs
  rw [List.length_map]
  exact List.length_filter_le _ _
theorem cs_flat (cs : List Ch) : (cs.map fun c => (false, c)).map (·.2) = cs := by
  rw [List.map_map]
  exact List.map_id _
/-! _book_in -/
abbrev nBin : List Str := ["self", "rows", "name", "seen", "key", "owner", "choice"]
theorem fs_Bin : FnScope nBin ["self", "rows", "name"] dHouseBin.scope := ⟨rfl, rfl, rfl, by decide +kernel, rfl, by decide +kernel, by decide +kernel⟩
structure BinA where
  x : HA
  rows : List Row
  name : Str
def sBin (K : PySem.W.Frag) : Spec BinA where
  args := fun y => [.raw (.ref y.x.a), .dat (rowsT y.rows), dS y.name]
  pre := fun y => HaOk y.x ∧ RowsOk y.x.acts.length y.rows
  J := fun y => hsR K y.x y.x.m
  rt := fun y r J => y.name ∈ y.x.names ∧ r = bkS K y.x.st y.x.acts (seenOf y.rows y.name)
  ex := fun y e J => J = hsR K y.x y.x.m ∧ y.name ∉ y.x.names ∧ e = refE K (.noMind y.name)
theorem b_Bin (T : Tx P K mg) : Body P w K mg base dHouseBin nBin (sBin K) 9 := by
  rintro ⟨x, rows, name⟩ cdv A0 outer s W0 E hr ⟨hx, hrows⟩
  have nd := fs_Bin.nd
  have tk : Takes (actOf P w K mg base nBin dHouseBin.qual dHouseBin.scope (He.fAd K dHouseBin.at_) cdv A0 outer s ((sBin K).md ⟨x, rows, name⟩) W0 E ((sBin K).ex ⟨x, rows, name⟩)).X fun cls d _ H => E cls d H := takes_of rfl rfl rfl rfl
  obtain ⟨fI, hX⟩ := T.raiser (x := "NoMind") (f := "name") (by decide)
  refine wss_cons (ws_if ?_)
  walk_at "w"
  walk_at "w"
  walk_at "hf"
  refine od_niF rfl (.inr rfl) rfl (flat_strs _) ?_
  rw [any_str]
  walk_at "w"
  refine ite_ndec (fun hn => ?_) (fun hn => ?_)
  · refine wss_cons (ws_raise rfl tk hX hr ?_)
    walk_at "w"
    exact ⟨_, rfl, rfl, hn, rfl⟩
  refine wss_nil (wss_cons (ws_setLc 3 rfl nd (lc_T [("key", 4), ("owner", 5), ("choice", 6)] ?_) (blkOk_by (N := nBin) (sc := dHouseBin.scope) (by decide +kernel))))
  walk_at "w"
  refine ⟨_, rfl, fun i acc => acc = (chs (rows.take i) name).map chD, rfl, ?_, fun acc he => ?_⟩
  · rintro i d acc hd rfl
    rw [List.getElem?_map] at hd
    obtain ⟨r0, hr0, rfl⟩ := Option.map_eq_some_iff.mp hd
    have hi := (List.getElem?_eq_some_iff.mp hr0).1
    have eT : rows.take (i + 1) = rows.take i ++ [r0] := by rw [List.take_add_one, hr0]; rfl
    have hc := chs_len (rows.take i) name
    rw [List.length_take] at hc
    have h24 := hrows.len
    have h24 : rows.length ≤ 24 := h24
    refine ⟨[.raw (.ref x.a), .dat (rowsT rows), dS name, .un, dI r0.key, dS r0.name, .dat (chD r0.c)], decide (r0.name = name), fun s H C cl fp D => ?_, fun s H C cl fp D => ?_, ?_⟩
    · refine wgc_tup (ds := [.int r0.key, .str r0.name, chD r0.c]) rfl ?_
      refine wgcs_cons (wgc_name 4 ?_ nd)
      refine wgcs_cons (wgc_name 5 ?_ nd)
      refine wgcs_cons (wgc_name 6 ?_ nd)
      exact wgcs_nil rfl
    · show Wt _ _ _ _ _
      walk_at "w"
      walk_at "w"
      walk_at "w"
      refine od_eqS ?_
      exact ⟨_, rfl, rfl⟩
    · refine ite_dec (fun hn => ?_) (fun hn => ?_)
      · refine ⟨chD r0.c, ?_, ?_, fun s H C cl fp D => ?_⟩
        · rw [List.length_map]; omega
        · show _ = List.map chD (chs (List.take (i + 1) rows) name)
          rw [eT, chs_snoc, if_pos hn, List.map_append]; rfl
        · walk_at "w"
          rfl
      · show _ = List.map chD (chs (List.take (i + 1) rows) name)
        rw [eT, chs_snoc, if_neg hn, List.append_nil]
  have he : acc = (chs (rows.take (rows.map rowD).length) name).map chD := he
  rw [List.length_map, List.take_length] at he
  subst he
  refine ⟨rfl, wss_frz 3 (wss_cons (ws_ret (we_makeF (c_BI T) hr (by decide) tk ?_)))⟩
  have h24 : rows.length ≤ 24 := hrows.len
  walk_at "w"
  refine we_fldF (C := bkC K) T.cls T.noat ?_
  walk_at "hf"
  refine ⟨_, _, rfl, rfl, ?_⟩
  walk_at "w"
  refine we_fldF (C := bkC K) T.cls T.noat ?_
  walk_at "hf"
  refine ⟨_, _, rfl, rfl, ?_⟩
  repeat walk_at "w"
  intro a
  have ew : bkW (BkA.cs ⟨a, x.st, false, x.acts, true, (chs rows name).map fun c => (false, c)⟩) x.acts.length = .ok := by
    rw [show BkA.cs ⟨a, x.st, false, x.acts, true, (chs rows name).map fun c => (false, c)⟩ = chs rows name from cs_flat _]
    exact bkW_in hrows
  refine ⟨⟨a, x.st, false, x.acts, true, (chs rows name).map fun c => (false, c)⟩, ?_, rfl, ⟨hx.acts, ?_⟩, rfl, fun z o q => q, fun r J' hh => ?_, fun e J' hh => ?_⟩
  · show _ = [Sl.raw (.ref a), dI x.st, dT (x.acts.map actD), .dat (.list (List.map (fun p : Bool × Ch => chB p.1 p.2) ((chs rows name).map fun c => (false, c))))]
    rw [List.map_map]
    rfl
  · show List.length (List.map _ _) ≤ _
    rw [List.length_map]
    have := chs_len rows name
    omega
  · obtain ⟨rfl, rfl, hh⟩ := hh
    refine ⟨rfl, _, rfl, hn, ?_⟩
    rw [show BkA.cs ⟨a, x.st, false, x.acts, true, (chs rows name).map fun c => (false, c)⟩ = chs rows name from cs_flat _]
    rfl
  · obtain ⟨_, hh⟩ := hh
    rw [ew] at hh
    exact hh.elim
theorem c_Bin (T : Tx P K mg) : Met P w K mg base 10 (hsC K) "_book_in" ((sBin K).sp K) :=
  met_of T (b_Bin T) rfl T.cls T.meth (by unfold fn; repeat (first | with_reducible exact List.Mem.head _ | apply List.Mem.tail)) rfl rfl fs_Bin (fun _ => rfl) (fun x => rfl) (by decide) (fun _ _ _ _ _ _ us h => match us, h with | [_, _, _], _ => rfl)
/-! book -/
abbrev nHb : List Str := ["self", "name"]
theorem fs_Hb : FnScope nHb ["self", "name"] dHouseBook.scope := ⟨rfl, rfl, rfl, by decide +kernel, rfl, by decide +kernel, by decide +kernel⟩
def sHb (K : PySem.W.Frag) : Spec (HA × Str) where
  args := fun y => [.raw (.ref y.1.a), dS y.2]
  pre := fun y => HaOk y.1
  J := fun y => hsR K y.1 y.1.m
  rt := fun y r J => y.2 ∈ y.1.names ∧ r = bkS K y.1.st y.1.acts (seenOf y.1.m.rows y.2)
  ex := fun y e J => J = hsR K y.1 y.1.m ∧ y.2 ∉ y.1.names ∧ e = refE K (.noMind y.2)
theorem b_Hb (T : Tx P K mg) : Body P w K mg base dHouseBook nHb (sHb K) 10 := by
  rintro ⟨x, name⟩ cdv A0 outer s W0 E hr hx
  have tk : Takes (actOf P w K mg base nHb dHouseBook.qual dHouseBook.scope (He.fAd K dHouseBook.at_) cdv A0 outer s ((sHb K).md ⟨x, name⟩) W0 E ((sHb K).ex ⟨x, name⟩)).X fun cls d _ H => E cls d H := takes_of rfl rfl rfl rfl
  have hx : HaOk x := hx
  refine wss_cons (ws_ret (we_meth (c_Bin T) hr (by decide) tk ?_))
  walk_at "w"
  refine ⟨rcv_J hs_ins rfl, ?_⟩
  walk_at "w"
  walk_at "hf"
  repeat walk_at "w"
  refine ⟨⟨x, x.m.rows, name⟩, rfl, rfl, ⟨hx, hx.hs.rows⟩, fun z o q => q, fun _ _ h => h, fun z q => q, fun r J' hh => ?_, fun e J' hh => ?_⟩
  · obtain ⟨hn, rfl⟩ := hh
    exact ⟨hn, rfl⟩
  · exact ⟨rfl, hh.2⟩
theorem c_Hb (T : Tx P K mg) : Met P w K mg base 11 (hsC K) "book" ((sHb K).sp K) :=
  met_of T (b_Hb T) rfl T.cls T.meth (by unfold fn; repeat (first | with_reducible exact List.Mem.head _ | apply List.Mem.tail)) rfl rfl fs_Hb (fun _ => rfl) (fun x => rfl) (by decide) (fun _ _ _ _ _ _ us h => match us, h with | [_, _], _ => rfl)
/-! entries -/
abbrev nHe : List Str := ["self"]
theorem fs_He : FnScope nHe ["self"] dHouseEnt.scope := ⟨rfl, rfl, rfl, by decide +kernel, rfl, by decide +kernel, by decide +kernel⟩
def sHe (K : PySem.W.Frag) : Spec HA where
  args := fun x => [.raw (.ref x.a)]
  J := fun x => hsR K x x.m
  rt := fun x r J => r = .dat (rowsT x.m.rows)
theorem b_He (T : Tx P K mg) : Body P w K mg base dHouseEnt nHe (sHe K) 0 := by
  rintro x cdv A0 outer s W0 E hr hx
  refine wss_cons (ws_ret ?_)
  walk_at "hf"
  rfl
theorem c_He (T : Tx P K mg) : Met P w K mg base 1 (hsC K) "entries" ((sHe K).sp K) :=
  met_of T (b_He T) rfl T.cls T.meth (by unfold fn; repeat (first | with_reducible exact List.Mem.head _ | apply List.Mem.tail)) rfl rfl fs_He (fun _ => rfl) (fun x => rfl) (by decide) (fun _ _ _ _ _ _ us h => match us, h with | [_], _ => rfl)
/-! _place -/
abbrev nHp : List Str := ["self", "key", "place"]
theorem fs_Hp : FnScope nHp ["self", "key"] dHousePlace.scope := ⟨rfl, rfl, rfl, by decide +kernel, rfl, by decide +kernel, by decide +kernel⟩
def sHp (K : PySem.W.Frag) : Spec (HA × Int) where
  args := fun y => [.raw (.ref y.1.a), dI y.2]
  pre := fun y => HaOk y.1
  J := fun y => hsR K y.1 y.1.m
  rt := fun y r J => ∃ i : Nat, placeOf y.1.m.rows y.2 = some i ∧ r = dI i
  ex := fun y e J => J = hsR K y.1 y.1.m ∧ placeOf y.1.m.rows y.2 = none ∧ e = refE K (.noEntry y.2)
theorem b_Hp (T : Tx P K mg) : Body P w K mg base dHousePlace nHp (sHp K) 3 := by
  rintro ⟨x, key⟩ cdv A0 outer s W0 E hr hx
  have hx : HaOk x := hx
  have h24 : x.m.rows.length ≤ 24 := hx.hs.rows.len
  have nd := fs_Hp.nd
  have tk : Takes (actOf P w K mg base nHp dHousePlace.qual dHousePlace.scope (He.fAd K dHousePlace.at_) cdv A0 outer s ((sHp K).md ⟨x, key⟩) W0 E ((sHp K).ex ⟨x, key⟩)).X fun cls d _ H => E cls d H := takes_of rfl rfl rfl rfl
  obtain ⟨fI, hX⟩ := T.raiser (x := "NoEntry") (f := "key") (by decide)
  refine wss_cons ?_
  refine ws_forR (passes_of rfl) rfl T.free ?_
  walk_at "w"
  walk_at "hf"
  walk_at "w"
  refine cd_len (d := rowsT x.m.rows) rfl rfl (by rw [List.length_map]; omega) ?_
  rw [List.length_map]
  refine ⟨_, rfl, by omega, by omega, fun k ρ' J' => (∀ j, j < k → ∀ q, x.m.rows[j]? = some q → q.key ≠ key) ∧ J' = hsR K x x.m ∧ ∃ r, ρ' = [.raw (.ref x.a), dI key, r], ⟨fun j h => absurd h (Nat.not_lt_zero j), rfl, _, rfl⟩, ?_, ?_⟩
  · rintro k ρ' J' hk ⟨hn, rfl, r, rfl⟩
    have hk' : k < x.m.rows.length := by simpa using hk
    obtain ⟨q, hq⟩ : ∃ q, x.m.rows[k]? = some q := ⟨x.m.rows[k], List.getElem?_eq_getElem hk'⟩
    refine wg_name 2 ?_ nd
    refine wss_cons (ws_if ?_)
    walk_at "w"
    walk_at "w"
    walk_at "w"
    walk_at "hf"
    walk_at "w"
    refine id_tup (d := .tuple [.int q.key, .str q.name, chD q.c]) (atI_nat (by rw [List.getElem?_map, hq]; rfl)) ?_
    repeat walk_at "w"
    refine ite_dec (fun c => ?_) (fun c => ?_)
    · refine wss_cons (ws_ret ?_)
      walk_at "w"
      refine ⟨k, ?_, rfl⟩
      unfold placeOf
      rw [List.findIdx?_eq_some_iff_getElem]
      refine ⟨hk', ?_, fun j hj => ?_⟩
      · rw [List.getElem?_eq_getElem hk'] at hq
        cases hq
        exact decide_eq_true c
      · have := hn j hj x.m.rows[j] (List.getElem?_eq_getElem (by omega))
        simpa using this
    · refine wss_nil (wss_nil ⟨fun j hj q' hq' => ?_, rfl, _, rfl⟩)
      rcases Nat.lt_succ_iff_lt_or_eq.mp hj with h | h
      · exact hn j h q' hq'
      · subst h
        rw [hq] at hq'
        cases hq'
        exact c
  · rintro ρ' J' ⟨hn, rfl, r, rfl⟩
    refine wss_cons (ws_raise rfl tk hX hr ?_)
    walk_at "w"
    refine ⟨_, rfl, rfl, ?_, rfl⟩
    unfold placeOf
    rw [List.findIdx?_eq_none_iff]
    intro q hq
    obtain ⟨j, hj, e⟩ := List.mem_iff_getElem.mp hq
    have := hn j (by simpa using hj) q (by rw [List.getElem?_eq_getElem hj, e])
    simpa using this
theorem c_Hp (T : Tx P K mg) : Met P w K mg base 4 (hsC K) "_place" ((sHp K).sp K) :=
  met_of T (b_Hp T) rfl T.cls T.meth (by unfold fn; repeat (first | with_reducible exact List.Mem.head _ | apply List.Mem.tail)) rfl rfl fs_Hp (fun _ => rfl) (fun x => rfl) (by decide) (fun _ _ _ _ _ _ us h => match us, h with | [_, _], _ => rfl)
/-! _entry -/
abbrev nEn : List Str := ["self", "rows", "key", "name", "choice", "book"]
theorem fs_En : FnScope nEn ["self", "rows", "key", "name", "choice"] dHouseEntry.scope := ⟨rfl, rfl, rfl, by decide +kernel, rfl, by decide +kernel, by decide +kernel⟩
structure EnA where
  x : HA
  rows : List Row
  key : Int
  name : Str
  b : Bool
  c : Ch
def sEn (K : PySem.W.Frag) : Spec EnA where
  args := fun y => [.raw (.ref y.x.a), .dat (rowsT y.rows), dI y.key, dS y.name, .dat (chB y.b y.c)]
  pre := fun y => HaOk y.x ∧ RowsOk y.x.acts.length y.rows
  J := fun y => hsR K y.x y.x.m
  rt := fun y r J => refusal y.rows y.x.names y.x.acts.length y.name y.c = none ∧ r = .dat (rowD ⟨y.key, y.name, y.c⟩)
  ex := fun y e J => J = hsR K y.x y.x.m ∧ ∃ rf, refusal y.rows y.x.names y.x.acts.length y.name y.c = some rf ∧ e = refE K rf
theorem b_En (T : Tx P K mg) : Body P w K mg base dHouseEntry nEn (sEn K) 13 := by
  rintro ⟨x, rows, key, name, b, c⟩ cdv A0 outer s W0 E hr ⟨hx, hrows⟩
  have h24 : rows.length ≤ 24 := hrows.len
  have hrows : RowsOk x.acts.length rows := hrows
  have nd := fs_En.nd
  have tk : Takes (actOf P w K mg base nEn dHouseEntry.qual dHouseEntry.scope (He.fAd K dHouseEntry.at_) cdv A0 outer s ((sEn K).md ⟨x, rows, key, name, b, c⟩) W0 E ((sEn K).ex ⟨x, rows, key, name, b, c⟩)).X fun cls d _ H => E cls d H := takes_of rfl rfl rfl rfl
  obtain ⟨fI, hX⟩ := T.raiser (x := "TooMany") (f := "limit") (by decide)
  refine wss_cons (ws_setI nd (we_meth (c_Bin T) hr (by decide) tk ?_))
  walk_at "w"
  refine ⟨rcv_J hs_ins rfl, ?_⟩
  repeat walk_at "w"
  refine ⟨⟨x, rows, name⟩, rfl, rfl, ⟨hx, hrows⟩, fun z o q => q, fun _ _ h => h, fun z q => q, fun r J' hh => ?_, fun e J' hh => ?_⟩
  rotate_left
  · obtain ⟨_, hn, rfl⟩ := hh
    refine ⟨rfl, _, ?_, rfl⟩
    show refusal rows x.names _ name c = _
    unfold refusal
    rw [if_neg hn]
  obtain ⟨hn, rfl⟩ := hh
  have hn : name ∈ x.names := hn
  refine ⟨rfl, wss_cons (ws_if ?_)⟩
  walk_at "w"
  walk_at "w"
  walk_at "w"
  walk_at "w"
  refine cd_len (d := rowsT rows) rfl rfl (by rw [List.length_map]; omega) ?_
  rw [List.length_map]
  repeat walk_at "w"
  refine ite_dec (fun hl => ?_) (fun hl => ?_)
  · refine wss_cons (ws_raise rfl tk hX hr ?_)
    walk_at "w"
    refine ⟨_, rfl, rfl, .full, ?_, rfl⟩
    show refusal rows x.names _ name c = _
    unfold refusal
    rw [if_pos hn, if_neg (by omega)]
  have key := bkW_with (c := c) hrows hn (by omega)
  refine wss_nil (wss_cons (ws_expr (we_meth (c_BW T) hr (by decide) tk ?_)))
  walk_at "w"
  refine ⟨rcv_F rfl, ?_⟩
  repeat walk_at "w"
  have h8 := hrows.few name
  refine ⟨⟨x.st, x.acts, seenOf rows name, b, c⟩, rfl, by cases b <;> rfl, ⟨hx.acts, by show (seenOf rows name).length ≤ 100; omega⟩, fun z o q => q, fun _ _ _ => True.intro, fun z q => q.elim, fun r J' hh => ?_, fun e J' hh => ?_⟩
  · obtain ⟨rfl, hh⟩ := hh
    have hh : bkW (seenOf rows name ++ [c]) x.acts.length = .ok := hh
    rw [hh] at key
    refine wss_cons (ws_ret ?_)
    repeat walk_at "w"
    refine cd_tupSq ?_
    repeat walk_at "w"
    exact ⟨key, rfl⟩
  · obtain ⟨rfl, hh⟩ := hh
    have hh : bkE K (bkW (seenOf rows name ++ [c]) x.acts.length) e := hh
    generalize bkW (seenOf rows name ++ [c]) x.acts.length = z at key hh
    cases z with
    | ok => exact hh.elim
    | badC p =>
      cases hh
      exact ⟨rfl, _, key, rfl⟩
    | many =>
      cases hh
      exact ⟨rfl, _, key, rfl⟩
theorem c_En (T : Tx P K mg) : Met P w K mg base 14 (hsC K) "_entry" ((sEn K).sp K) :=
  met_of T (b_En T) rfl T.cls T.meth (by unfold fn; repeat (first | with_reducible exact List.Mem.head _ | apply List.Mem.tail)) rfl rfl fs_En (fun _ => rfl) (fun x => by obtain ⟨x, rows, key, name, b, c⟩ := x; cases b <;> rfl) (by decide) (fun _ _ _ _ _ _ us h => match us, h with | [_, _, _, _, _], _ => rfl)
end
end KK

namespace KK
open PySem PySem.Spec PyProof.Rows L2 DL
local macro_rules | `(tactic| walk_at "v") => `(tactic| first
  | refine we_varI ?_
  | refine we_varOI ?_
  | ((with_reducible refine (?_ : We _ (.Name "int" _) _ _ _)); refine we_ty (Tx.f_int (by assumption)) boot_int' ?_)
  | ((with_reducible refine (?_ : We _ (.Name "bool" _) _ _ _)); refine we_ty (Tx.f_bool (by assumption)) boot_bool' ?_)
  | ((with_reducible refine (?_ : We _ (.Name "str" _) _ _ _)); refine we_ty (Tx.f_str (by assumption)) boot_str' ?_)
  | ((with_reducible refine (?_ : We _ (.Name "tuple" _) _ _ _)); refine we_ty (Tx.f_tuple (by assumption)) boot_tuple' ?_)
  | ((with_reducible refine (?_ : We _ (.Name "list" _) _ _ _)); refine we_ty (Tx.f_list (by assumption)) boot_list' ?_)
  | refine we_glob (Tx.int (by assumption)) (fun _ => .int _) ?_)
local macro_rules | `(tactic| walk_at "b") => `(tactic| first
  | ((with_reducible refine (?_ : We _ (.Call (.Name "len" _) _ _ _) _ _ _)); refine we_callB (Tx.f_len (by assumption)) boot_len ?_; refine wa_cons ?_)
  | ((with_reducible refine (?_ : We _ (.Call (.Name "isinstance" _) _ _ _) _ _ _)); refine we_callB (Tx.f_isinstance (by assumption)) DL.boot_isinstance ?_; refine wa_cons ?_)
  | ((with_reducible refine (?_ : We _ (.Call (.Name "max" _) _ _ _) _ _ _)); refine we_callB (Tx.f_max (by assumption)) boot_max' ?_; refine wa_cons ?_)
  | ((with_reducible refine (?_ : We _ (.Call (.Name "min" _) _ _ _) _ _ _)); refine we_callB (Tx.f_min (by assumption)) boot_min' ?_; refine wa_cons ?_)
  | ((with_reducible refine (?_ : We _ (.Call (.Name "int" _) _ _ _) _ _ _)); refine we_callTy (Tx.f_int (by assumption)) boot_int' ?_; refine wa_cons ?_)
  | ((with_reducible refine (?_ : We _ (.Call (.Name "tuple" _) _ _ _) _ _ _)); refine we_callTy (Tx.f_tuple (by assumption)) boot_tuple' ?_; refine wa_cons ?_)
  | ((with_reducible refine (?_ : We _ (.Call (.Name "list" _) _ _ _) _ _ _)); refine we_callTy (Tx.f_list (by assumption)) boot_list' ?_; refine wa_cons ?_))
local macro_rules | `(tactic| walk_at "k") => `(tactic| first | refine we_int ?_ | refine we_str ?_ | refine we_bl ?_ | refine we_non ?_)
local macro_rules | `(tactic| walk_at "o+") => `(tactic| first | refine od_add ?_)
local macro_rules | `(tactic| walk_at "oe") => `(tactic| first | refine od_eqI ?_ | refine od_eqS ?_)
local macro_rules | `(tactic| walk_at "on") => `(tactic| first | refine od_neI ?_ | refine od_neS ?_)
local macro_rules | `(tactic| walk_at "c") => `(tactic| first | refine cd_int ?_ | refine cd_tup rfl ?_ | refine cd_tupT ?_ | refine cd_lst rfl ?_ | refine cd_lstT ?_)
local macro_rules | `(tactic| walk_at "w") => `(tactic| first
  | ((with_reducible refine (?_ : We _ (.Name _ _) _ _ _)); walk_at "v")
  | ((with_reducible refine (?_ : We _ (.Constant _ _ _) _ _ _)); walk_at "k")
  | ((with_reducible refine (?_ : We _ (.Subscript _ (.Slice _ _ _ _) _) _ _ _)); refine we_slice ?_)
  | ((with_reducible refine (?_ : We _ (.Subscript _ _ _) _ _ _)); refine we_ix (fun _ _ => rfl) ?_)
  | ((with_reducible refine (?_ : We _ (.Call _ _ _ _) _ _ _)); walk_at "b")
  | ((with_reducible refine (?_ : We _ (.BinOp _ _ _ _) _ _ _)); refine we_bin ?_)
  | ((with_reducible refine (?_ : We _ (.Compare _ _ _ _) _ _ _)); refine we_cmp rfl ?_)
  | ((with_reducible refine (?_ : We _ (.UnaryOp .USub _ _) _ _ _)); refine we_un ?_)
  | ((with_reducible refine (?_ : We _ (.Tuple _ _ _) _ _ _)); refine we_tup ?_)
  | ((with_reducible refine (?_ : We _ (.List _ _) _ _ _)); refine we_lst ?_)
  | ((with_reducible refine (?_ : Wa _ [] _ _ _)); refine wa_nil ?_)
  | ((with_reducible refine (?_ : Wa _ (_ :: _) _ _ _)); refine wa_cons ?_)
  | ((with_reducible refine (?_ : Wt _ (.Compare _ _ _ _) _ _ _)); refine wt_cmp rfl ?_)
  | ((with_reducible refine (?_ : Wt _ (.UnaryOp .Not _ _) _ _ _)); refine wt_not ?_)
  | ((with_reducible refine (?_ : Wt _ (.BoolOp _ _ _) _ _ _)); refine wt_bool ?_)
  | ((with_reducible refine (?_ : Ww _ (.BoolOp .And (_ :: _ :: _) _) _ _ _)); refine ww_and ?_)
  | ((with_reducible refine (?_ : Ww _ (.BoolOp .Or (_ :: _ :: _) _) _ _ _)); refine ww_or ?_)
  | ((with_reducible refine (?_ : Ww _ (.BoolOp .And _ _) _ _ _)); refine ww_and1 ?_)
  | ((with_reducible refine (?_ : Ww _ (.BoolOp .Or _ _) _ _ _)); refine ww_or1 ?_)
  | ((with_reducible refine (?_ : Wp _ none _ _ _)); refine wp_none ?_)
  | ((with_reducible refine (?_ : Wp _ (some _) _ _ _)); refine wp_some ?_)
  | ((with_reducible refine (?_ : Od _ (binaryOp .Add) _ _ _ _ _)); refine od_add ?_)
  | ((with_reducible refine (?_ : Od _ (binaryOp .Sub) _ _ _ _ _)); refine od_sub ?_)
  | ((with_reducible refine (?_ : Od _ (binaryOp .Mult) _ _ _ _ _)); refine od_mul ?_)
  | ((with_reducible refine (?_ : Od _ (binaryOp .FloorDiv) _ _ _ _ _)); refine od_fdiv ?_)
  | ((with_reducible refine (?_ : Od _ (binaryOp .Mod) _ _ _ _ _)); refine od_mod ?_)
  | ((with_reducible refine (?_ : Od _ (compareOp .Eq) _ _ _ _ _)); walk_at "oe")
  | ((with_reducible refine (?_ : Od _ (compareOp .NotEq) _ _ _ _ _)); walk_at "on")
  | ((with_reducible refine (?_ : Od _ (compareOp .Lt) _ _ _ _ _)); refine od_lt ?_)
  | ((with_reducible refine (?_ : Od _ (compareOp .LtE) _ _ _ _ _)); refine od_le ?_)
  | ((with_reducible refine (?_ : Od _ (compareOp .Gt) _ _ _ _ _)); refine od_gt ?_)
  | ((with_reducible refine (?_ : Od _ (compareOp .GtE) _ _ _ _ _)); refine od_ge ?_)
  | ((with_reducible refine (?_ : Od _ (compareOp .Is) _ _ _ _ _)); refine od_isN ?_)
  | ((with_reducible refine (?_ : Od _ (compareOp .IsNot) _ _ _ _ _)); refine od_isnotN ?_)
  | ((with_reducible refine (?_ : Ud _ _ _ _ _ _)); refine ud_neg ?_)
  | ((with_reducible refine (?_ : Cd _ (.type _) _ _ _ _)); walk_at "c")
  | ((with_reducible refine (?_ : Id _ _ _ (.dat (.tuple _)) _ _)); refine id_tup (by rfl) ?_)
  | ((with_reducible refine (?_ : ∃ k, Sl.dat (PyData.bool _) = Sl.dat (PyData.bool k) ∧ _)); refine ⟨_, rfl, ?_⟩)
  | ((with_reducible refine (?_ : ∃ i, Sl.dat (PyData.int _) = Sl.dat (PyData.int i) ∧ _)); refine ⟨_, rfl, ?_⟩)
  | ((with_reducible refine (?_ : ∃ ds, datsOf _ = some ds ∧ _ ∧ _)); refine ⟨_, rfl, Nat.le_of_ble_eq_true rfl, ?_⟩)
  | ((with_reducible refine (?_ : Id _ _ _ (.dat _) _ _)); refine id_tup (by rfl) ?_))
section
variable {P : Program} {w : World} {K : PySem.W.Frag} {mg : Str → Option Value} {base : Heap}
/-! ### House: what changes it -/
local macro_rules | `(tactic| walk_at "hf") => `(tactic| (refine we_fld (C := hsC _) (Tx.cls (by assumption)) (Tx.noat (by assumption)) ?_; walk_at "w"; refine ⟨_, _, _, rfl, hs_ins, rfl, ?_⟩))
def hsM (x : HA) (z : Addr) (_ : HO) : Prop := z = x.a ∨ z = x.p
theorem hs_cv {x : HA} {m : Hs} : Cv (hsR K x m) ((Res.lst K x.p (m.past.map rowsT)).star (Res.ins K x.a (hsC K) (hsF K x m))) := Cv.comm
theorem fr_hs {x : HA} {m : Hs} : (hsR K x m).Fr := fr_star fr_ins fr_lst
/-! _keep -/
abbrev nKp : List Str := ["self", "rows", "last_key"]
theorem fs_Kp : FnScope nKp ["self", "rows", "last_key"] dHouseKeep.scope := ⟨rfl, rfl, rfl, by decide +kernel, rfl, by decide +kernel, by decide +kernel⟩
def sKp (K : PySem.W.Frag) : Spec (HA × List Row × Int) where
  args := fun y => [.raw (.ref y.1.a), .dat (rowsT y.2.1), dI y.2.2]
  pre := fun y => y.1.m.past.length ≤ 10000
  J := fun y => hsR K y.1 y.1.m
  M := fun y => hsM y.1
  rt := fun y r J => r = dN ∧ J = hsR K y.1 (y.1.m.add y.2.1 y.2.2)
theorem b_Kp (T : Tx P K mg) : Body P w K mg base dHouseKeep nKp (sKp K) 0 := by
  rintro ⟨x, rows, last⟩ cdv A0 outer s W0 E hr hp
  have hp : x.m.past.length ≤ 10000 := hp
  refine wss_cons (ws_appendJ (q := x.p) (fun h o => h) hs_cv ?_)
  walk_at "hf"
  refine ⟨rfl, ?_⟩
  walk_at "hf"
  refine ⟨_, rfl, by rw [List.length_map]; show x.m.past.length < _; omega, ?_⟩
  refine wss_cons (ws_fld (a := x.a) (fs := hsF K x x.m) T.cls T.noat (fun h o => h) Cv.comm (by show (5 : Nat) < _; decide) ?_)
  walk_at "w"
  refine ⟨rfl, (fun z => nomatch z), ?_⟩
  walk_at "w"
  refine ⟨rfl, ?_⟩
  refine wss_cons (ws_fld (a := x.a) (fs := putS "_rows" (.dat (rowsT rows)) (hsF K x x.m)) T.cls T.noat (fun h o => h) Cv.refl (by show (5 : Nat) < _; decide) ?_)
  walk_at "w"
  refine ⟨rfl, (fun z => nomatch z), ?_⟩
  walk_at "w"
  refine ⟨rfl, wss_nil ⟨rfl, ?_⟩⟩
  unfold hsR Hs.add
  rw [List.map_append]
  rfl
theorem c_Kp (T : Tx P K mg) : Met P w K mg base 1 (hsC K) "_keep" ((sKp K).sp K) :=
  met_of T (b_Kp T) rfl T.cls T.meth (by unfold fn; repeat (first | with_reducible exact List.Mem.head _ | apply List.Mem.tail)) rfl rfl fs_Kp (fun _ => rfl) (fun x => rfl) (by decide) (fun _ _ _ _ _ _ us h => match us, h with | [_, _, _], _ => rfl)
/-! what a deed's method promises -/
def stepH (x : HA) (d : Deed) : Out × Hs := stepP x.names x.acts.length x.m d
def dRt (K : PySem.W.Frag) (x : HA) (d : Deed) (r : Sl) (J : Res) : Prop := ∃ v, (stepH x d).1 = .ok v ∧ r = .dat v ∧ J = hsR K x (stepH x d).2
def dEx (K : PySem.W.Frag) (x : HA) (d : Deed) (e : Exn) (J : Res) : Prop := ∃ rf, (stepH x d).1 = .error rf ∧ e = refE K rf ∧ J = hsR K x (stepH x d).2
/-! see -/
abbrev nSe : List Str := ["self", "name", "choice", "entry"]
theorem fs_Se : FnScope nSe ["self", "name", "choice"] dHouseSee.scope := ⟨rfl, rfl, rfl, by decide +kernel, rfl, by decide +kernel, by decide +kernel⟩
structure SeA where
  x : HA
  n : Str
  b : Bool
  c : Ch
def sSe (K : PySem.W.Frag) : Spec SeA where
  args := fun y => [.raw (.ref y.x.a), dS y.n, .dat (chB y.b y.c)]
  pre := fun y => HaOk y.x
  J := fun y => hsR K y.x y.x.m
  M := fun y => hsM y.x
  rt := fun y => dRt K y.x (.see y.n y.c)
  ex := fun y => dEx K y.x (.see y.n y.c)
theorem rows_add (rows : List Row) (r : Row) : rowsT (rows ++ [r]) = .tuple (rows.map rowD ++ [rowD r]) := by unfold rowsT; rw [List.map_append]; rfl
theorem b_Se (T : Tx P K mg) : Body P w K mg base dHouseSee nSe (sSe K) 14 := by
  rintro ⟨x, n, b, c⟩ cdv A0 outer s W0 E hr hx
  have hx : HaOk x := hx
  have nd := fs_Se.nd
  have tk : Takes (actOf P w K mg base nSe dHouseSee.qual dHouseSee.scope (He.fAd K dHouseSee.at_) cdv A0 outer s ((sSe K).md ⟨x, n, b, c⟩) W0 E ((sSe K).ex ⟨x, n, b, c⟩)).X fun cls d _ H => E cls d H := takes_of rfl rfl rfl rfl
  have h24 : x.m.rows.length ≤ 24 := hx.hs.rows.len
  refine wss_cons (ws_setI nd (we_meth (c_En T) hr (by decide) tk ?_))
  walk_at "w"
  refine ⟨rcv_J hs_ins rfl, ?_⟩
  walk_at "w"
  walk_at "hf"
  walk_at "w"
  walk_at "w"
  walk_at "hf"
  repeat walk_at "w"
  refine ⟨⟨x, x.m.rows, x.m.last + 1, n, b, c⟩, rfl, by cases b <;> rfl, ⟨hx, hx.hs.rows⟩, fun z o q => q, fun _ _ h => h, fun z q => q, fun r J' hh => ?_, fun e J' hh => ?_⟩
  · obtain ⟨href, rfl⟩ := hh
    have href : refusal x.m.rows x.names x.acts.length n c = none := href
    refine ⟨rfl, wss_cons (ws_exprJ (wj_meth (c_Kp T) hr (by decide) tk ?_))⟩
    walk_at "w"
    refine ⟨rcv_J hs_ins rfl, ?_⟩
    walk_at "w"
    walk_at "w"
    walk_at "hf"
    repeat walk_at "w"
    refine od_addT (by simp only [List.length_append, List.length_take, List.length_drop, List.length_map, List.length_cons, List.length_nil]; omega) ?_
    walk_at "w"
    walk_at "w"
    walk_at "w"
    walk_at "w"
    refine id_tup (ds := [.int (x.m.last + 1), .str n, chD c]) rfl ?_
    walk_at "w"
    refine icall ⟨x, x.m.rows ++ [⟨x.m.last + 1, n, c⟩], x.m.last + 1⟩ .emp ?_ rfl hx.past Cv.emp fr_emp (fun z o q => .inr ⟨q, fun _ => q⟩) (fun r J' hh => ?_) (fun e J' z => z.elim)
    · show _ = [Sl.raw (.ref x.a), .dat (rowsT (x.m.rows ++ [_])), _]
      rw [rows_add] <;> rfl
    · obtain ⟨rfl, rfl⟩ := hh
      refine ⟨rfl, wss_conv Cv.fst (wss_cons (ws_ret ?_))⟩
      walk_at "w"
      walk_at "w"
      walk_at "w"
      refine id_tup (ds := [.int (x.m.last + 1), .str n, chD c]) rfl ?_
      have e : stepH x (.see n c) = (.ok (.int (x.m.last + 1)), x.m.add (x.m.rows ++ [⟨x.m.last + 1, n, c⟩]) (x.m.last + 1)) := by
        simp only [stepH, stepP, href]
      exact ⟨_, by rw [e] <;> rfl, rfl, by rw [e] <;> rfl⟩
  · obtain ⟨_, rf, href, rfl⟩ := hh
    have href : refusal x.m.rows x.names x.acts.length n c = some rf := href
    have e : stepH x (.see n c) = (.error rf, x.m) := by
      simp only [stepH, stepP, href]
    exact ⟨rf, by rw [e] <;> rfl, rfl, by rw [e] <;> rfl⟩
theorem c_Se (T : Tx P K mg) : Met P w K mg base 15 (hsC K) "see" ((sSe K).sp K) :=
  met_of T (b_Se T) rfl T.cls T.meth (by unfold fn; repeat (first | with_reducible exact List.Mem.head _ | apply List.Mem.tail)) rfl rfl fs_Se (fun _ => rfl) (fun y => by obtain ⟨x, n, b, c⟩ := y; cases b <;> rfl) (by decide) (fun _ _ _ _ _ _ us h => match us, h with | [_, _, _], _ => rfl)
/-! see_late -/
abbrev nLa : List Str := ["self", "key", "name", "choice", "place", "entry"]
theorem fs_La : FnScope nLa ["self", "key", "name", "choice"] dHouseLate.scope := ⟨rfl, rfl, rfl, by decide +kernel, rfl, by decide +kernel, by decide +kernel⟩
structure LaA where
  x : HA
  k : Int
  n : Str
  b : Bool
  c : Ch
def sLa (K : PySem.W.Frag) : Spec LaA where
  args := fun y => [.raw (.ref y.x.a), dI y.k, dS y.n, .dat (chB y.b y.c)]
  pre := fun y => HaOk y.x
  J := fun y => hsR K y.x y.x.m
  M := fun y => hsM y.x
  rt := fun y => dRt K y.x (.late y.k y.n y.c)
  ex := fun y => dEx K y.x (.late y.k y.n y.c)
theorem cut_to {α : Type} {xs : List α} {i : Nat} (h : i ≤ xs.length) : DL.cutD xs none (some (i : Int)) = xs.take i := by
  unfold DL.cutD
  rw [HT.sIx_nat, HT.sIx_none, Nat.min_eq_left h, Nat.sub_zero, List.drop_zero]
theorem cut_from {α : Type} {xs : List α} {i : Nat} (h : i ≤ xs.length) : DL.cutD xs (some (i : Int)) none = xs.drop i := by
  unfold DL.cutD
  rw [HT.sIx_nat, HT.sIx_none, Nat.min_eq_left h]
  exact List.take_of_length_le (by rw [List.length_drop]; exact Nat.le_refl _)
theorem b_La (T : Tx P K mg) : Body P w K mg base dHouseLate nLa (sLa K) 14 := by
  rintro ⟨x, k, n, b, c⟩ cdv A0 outer s W0 E hr hx
  have hx : HaOk x := hx
  have nd := fs_La.nd
  have tk : Takes (actOf P w K mg base nLa dHouseLate.qual dHouseLate.scope (He.fAd K dHouseLate.at_) cdv A0 outer s ((sLa K).md ⟨x, k, n, b, c⟩) W0 E ((sLa K).ex ⟨x, k, n, b, c⟩)).X fun cls d _ H => E cls d H := takes_of rfl rfl rfl rfl
  have h24 : x.m.rows.length ≤ 24 := hx.hs.rows.len
  refine wss_cons (ws_setI nd (we_meth (c_Hp T) hr (by decide) tk ?_))
  walk_at "w"
  refine ⟨rcv_J hs_ins rfl, ?_⟩
  repeat walk_at "w"
  refine ⟨⟨x, k⟩, rfl, rfl, hx, fun z o q => q, fun _ _ h => h, fun z q => q, fun r J' hh => ?_, fun e J' hh => ?_⟩
  rotate_left
  · obtain ⟨_, hp, rfl⟩ := hh
    have hp : placeOf x.m.rows k = none := hp
    have e : stepH x (.late k n c) = (.error (.noEntry k), x.m) := by
      simp only [stepH, stepP, hp]
    exact ⟨_, by rw [e] <;> rfl, rfl, by rw [e] <;> rfl⟩
  obtain ⟨i, hp, rfl⟩ := hh
  have hp : placeOf x.m.rows k = some i := hp
  have hi := placeOf_lt hp
  refine ⟨rfl, wss_cons (ws_setI nd (we_meth (c_En T) hr (by decide) tk ?_))⟩
  walk_at "w"
  refine ⟨rcv_J hs_ins rfl, ?_⟩
  walk_at "w"
  walk_at "hf"
  walk_at "w"
  walk_at "w"
  walk_at "hf"
  repeat walk_at "w"
  refine ⟨⟨x, x.m.rows, x.m.last + 1, n, b, c⟩, rfl, by cases b <;> rfl, ⟨hx, hx.hs.rows⟩, fun z o q => q, fun _ _ h => h, fun z q => q, fun r J' hh => ?_, fun e J' hh => ?_⟩
  · obtain ⟨href, rfl⟩ := hh
    have href : refusal x.m.rows x.names x.acts.length n c = none := href
    refine ⟨rfl, wss_cons (ws_exprJ (wj_meth (c_Kp T) hr (by decide) tk ?_))⟩
    walk_at "w"
    refine ⟨rcv_J hs_ins rfl, ?_⟩
    walk_at "w"
    walk_at "w"
    walk_at "w"
    walk_at "w"
    walk_at "hf"
    repeat walk_at "w"
    refine sd_tup ?_
    rw [cut_to (by simp only [List.length_map]; omega)]
    repeat walk_at "w"
    refine od_addT (by simp only [List.length_append, List.length_take, List.length_drop, List.length_map, List.length_cons, List.length_nil]; omega) ?_
    walk_at "w"
    walk_at "hf"
    repeat walk_at "w"
    refine sd_tup ?_
    rw [cut_from (by simp only [List.length_map]; omega)]
    refine od_addT (by simp only [List.length_append, List.length_take, List.length_drop, List.length_map, List.length_cons, List.length_nil]; omega) ?_
    walk_at "w"
    walk_at "w"
    walk_at "w"
    walk_at "w"
    refine id_tup (ds := [.int (x.m.last + 1), .str n, chD c]) rfl ?_
    walk_at "w"
    refine icall ⟨x, insAt x.m.rows i ⟨x.m.last + 1, n, c⟩, x.m.last + 1⟩ .emp ?_ rfl hx.past Cv.emp fr_emp (fun z o q => .inr ⟨q, fun _ => q⟩) (fun r J' hh => ?_) (fun e J' z => z.elim)
    · show _ = [Sl.raw (.ref x.a), .dat (.tuple ((x.m.rows.take i ++ [_] ++ x.m.rows.drop i).map rowD)), _]
      rw [List.map_append, List.map_append, List.map_take, List.map_drop]
      rfl
    · obtain ⟨rfl, rfl⟩ := hh
      refine ⟨rfl, wss_conv Cv.fst (wss_cons (ws_ret ?_))⟩
      walk_at "w"
      walk_at "w"
      walk_at "w"
      refine id_tup (ds := [.int (x.m.last + 1), .str n, chD c]) rfl ?_
      have e : stepH x (.late k n c) = (.ok (.int (x.m.last + 1)), x.m.add (insAt x.m.rows i ⟨x.m.last + 1, n, c⟩) (x.m.last + 1)) := by
        simp only [stepH, stepP, hp, href]
      exact ⟨_, by rw [e] <;> rfl, rfl, by rw [e] <;> rfl⟩
  · obtain ⟨_, rf, href, rfl⟩ := hh
    have href : refusal x.m.rows x.names x.acts.length n c = some rf := href
    have e : stepH x (.late k n c) = (.error rf, x.m) := by
      simp only [stepH, stepP, hp, href]
    exact ⟨rf, by rw [e] <;> rfl, rfl, by rw [e] <;> rfl⟩
theorem c_La (T : Tx P K mg) : Met P w K mg base 15 (hsC K) "see_late" ((sLa K).sp K) :=
  met_of T (b_La T) rfl T.cls T.meth (by unfold fn; repeat (first | with_reducible exact List.Mem.head _ | apply List.Mem.tail)) rfl rfl fs_La (fun _ => rfl) (fun y => by obtain ⟨x, k, n, b, c⟩ := y; cases b <;> rfl) (by decide) (fun _ _ _ _ _ _ us h => match us, h with | [_, _, _, _], _ => rfl)
/-! take_back -/
abbrev nTb : List Str := ["self", "key", "place"]
theorem fs_Tb : FnScope nTb ["self", "key"] dHouseBack.scope := ⟨rfl, rfl, rfl, by decide +kernel, rfl, by decide +kernel, by decide +kernel⟩
def sTb (K : PySem.W.Frag) : Spec (HA × Int) where
  args := fun y => [.raw (.ref y.1.a), dI y.2]
  pre := fun y => HaOk y.1
  J := fun y => hsR K y.1 y.1.m
  M := fun y => hsM y.1
  rt := fun y => dRt K y.1 (.back y.2)
  ex := fun y => dEx K y.1 (.back y.2)
theorem b_Tb (T : Tx P K mg) : Body P w K mg base dHouseBack nTb (sTb K) 14 := by
  rintro ⟨x, k⟩ cdv A0 outer s W0 E hr hx
  have hx : HaOk x := hx
  have nd := fs_Tb.nd
  have tk : Takes (actOf P w K mg base nTb dHouseBack.qual dHouseBack.scope (He.fAd K dHouseBack.at_) cdv A0 outer s ((sTb K).md ⟨x, k⟩) W0 E ((sTb K).ex ⟨x, k⟩)).X fun cls d _ H => E cls d H := takes_of rfl rfl rfl rfl
  have h24 : x.m.rows.length ≤ 24 := hx.hs.rows.len
  refine wss_cons (ws_setI nd (we_meth (c_Hp T) hr (by decide) tk ?_))
  walk_at "w"
  refine ⟨rcv_J hs_ins rfl, ?_⟩
  repeat walk_at "w"
  refine ⟨⟨x, k⟩, rfl, rfl, hx, fun z o q => q, fun _ _ h => h, fun z q => q, fun r J' hh => ?_, fun e J' hh => ?_⟩
  rotate_left
  · obtain ⟨_, hp, rfl⟩ := hh
    have hp : placeOf x.m.rows k = none := hp
    have e : stepH x (.back k) = (.error (.noEntry k), x.m) := by
      simp only [stepH, stepP, hp]
    exact ⟨_, by rw [e] <;> rfl, rfl, by rw [e] <;> rfl⟩
  obtain ⟨i, hp, rfl⟩ := hh
  have hp : placeOf x.m.rows k = some i := hp
  have hi := placeOf_lt hp
  refine ⟨rfl, wss_cons (ws_exprJ (wj_meth (c_Kp T) hr (by decide) tk ?_))⟩
  walk_at "w"
  refine ⟨rcv_J hs_ins rfl, ?_⟩
  walk_at "w"
  walk_at "w"
  walk_at "w"
  walk_at "hf"
  repeat walk_at "w"
  refine sd_tup ?_
  rw [cut_to (by simp only [List.length_map]; omega)]
  walk_at "w"
  walk_at "hf"
  repeat walk_at "w"
  refine sd_tup ?_
  rw [show ((i : Int) + 1) = ((i + 1 : Nat) : Int) from rfl, cut_from (by simp only [List.length_map]; omega)]
  refine od_addT (by simp only [List.length_append, List.length_take, List.length_drop, List.length_map, List.length_cons, List.length_nil]; omega) ?_
  walk_at "w"
  walk_at "hf"
  walk_at "w"
  refine icall ⟨x, outAt x.m.rows i, x.m.last⟩ .emp ?_ rfl hx.past Cv.emp fr_emp (fun z o q => .inr ⟨q, fun _ => q⟩) (fun r J' hh => ?_) (fun e J' z => z.elim)
  · show _ = [Sl.raw (.ref x.a), .dat (.tuple ((x.m.rows.take i ++ x.m.rows.drop (i + 1)).map rowD)), _]
    rw [List.map_append, List.map_take, List.map_drop]
  · obtain ⟨rfl, rfl⟩ := hh
    refine ⟨rfl, wss_conv Cv.fst (wss_nil ?_)⟩
    have e : stepH x (.back k) = (.ok .none, x.m.add (outAt x.m.rows i) x.m.last) := by
      simp only [stepH, stepP, hp]
    exact ⟨_, by rw [e] <;> rfl, rfl, by rw [e] <;> rfl⟩
theorem c_Tb (T : Tx P K mg) : Met P w K mg base 15 (hsC K) "take_back" ((sTb K).sp K) :=
  met_of T (b_Tb T) rfl T.cls T.meth (by unfold fn; repeat (first | with_reducible exact List.Mem.head _ | apply List.Mem.tail)) rfl rfl fs_Tb (fun _ => rfl) (fun y => rfl) (by decide) (fun _ _ _ _ _ _ us h => match us, h with | [_, _], _ => rfl)
/-! undo -/
abbrev nUn : List Str := ["self"]
theorem fs_Un : FnScope nUn ["self"] dHouseUndo.scope := ⟨rfl, rfl, rfl, by decide +kernel, rfl, by decide +kernel, by decide +kernel⟩
def sUn (K : PySem.W.Frag) : Spec HA where
  args := fun x => [.raw (.ref x.a)]
  pre := fun x => HaOk x
  J := fun x => hsR K x x.m
  M := fun x => hsM x
  rt := fun x => dRt K x .undo
theorem b_Un (T : Tx P K mg) : Body P w K mg base dHouseUndo nUn (sUn K) 0 := by
  rintro x cdv A0 outer s W0 E hr hx
  have hx : HaOk x := hx
  have hpl := hx.past
  refine wss_cons (ws_if ?_)
  walk_at "w"
  walk_at "w"
  walk_at "hf"
  walk_at "w"
  refine cd_lenJ (ds := x.m.past.map rowsT) (fun _ _ h => h.2.1) (List.length_map _) ?_
  repeat walk_at "w"
  refine ite_dec (fun h0 => ?_) (fun h0 => ?_)
  · refine wss_cons (ws_ret ?_)
    walk_at "w"
    have e0 : x.m.past = [] := List.length_eq_zero_iff.mp (by omega)
    have e : stepH x .undo = (.ok (.bool false), x.m) := by
      simp only [stepH, stepP, e0]; rfl
    exact ⟨_, by rw [e] <;> rfl, rfl, by rw [e] <;> rfl⟩
  obtain ⟨rs, hrs⟩ : ∃ rs, x.m.past.getLast? = some rs := by
    cases q : x.m.past.getLast? with
    | some rs => exact ⟨rs, rfl⟩
    | none => rw [List.getLast?_eq_none_iff] at q; rw [q] at h0; exact absurd rfl h0
  have hrs' : (x.m.past.map rowsT)[(x.m.past.map rowsT).length - 1]? = some (rowsT rs) := by
    rw [List.length_map, List.getElem?_map]
    rw [List.getLast?_eq_getElem?] at hrs
    rw [hrs]; rfl
  have e : stepH x .undo = (.ok (.bool true), ⟨rs, x.m.last, x.m.past.dropLast⟩) := by
    simp only [stepH, stepP, hrs]
  refine wss_nil (wss_cons (ws_fldJ (a := x.a) (C := hsC K) T.cls T.noat (fun h o => h) ?_))
  refine wj_popJ (q := x.p) (fun h o => h) hs_cv hrs' ?_
  walk_at "hf"
  refine ⟨rfl, rfl, (fun z => nomatch z), hsF K x x.m, _, Cv.comm, (by show (5 : Nat) < _; decide), ?_⟩
  walk_at "w"
  refine ⟨rfl, wss_cons (ws_ret ?_)⟩
  walk_at "w"
  refine ⟨_, by rw [e] <;> rfl, rfl, ?_⟩
  rw [e]
  unfold hsR
  rw [← List.map_dropLast]
  rfl
theorem c_Un (T : Tx P K mg) : Met P w K mg base 1 (hsC K) "undo" ((sUn K).sp K) :=
  met_of T (b_Un T) rfl T.cls T.meth (by unfold fn; repeat (first | with_reducible exact List.Mem.head _ | apply List.Mem.tail)) rfl rfl fs_Un (fun _ => rfl) (fun y => rfl) (by decide) (fun _ _ _ _ _ _ us h => match us, h with | [_], _ => rfl)
end
end KK

namespace KK
open PySem PySem.Spec PyProof.Rows L2 DL
local macro_rules | `(tactic| walk_at "v") => `(tactic| first
  | refine we_varI ?_
  | refine we_varOI ?_
  | ((with_reducible refine (?_ : We _ (.Name "int" _) _ _ _)); refine we_ty (Tx.f_int (by assumption)) boot_int' ?_)
  | ((with_reducible refine (?_ : We _ (.Name "bool" _) _ _ _)); refine we_ty (Tx.f_bool (by assumption)) boot_bool' ?_)
  | ((with_reducible refine (?_ : We _ (.Name "str" _) _ _ _)); refine we_ty (Tx.f_str (by assumption)) boot_str' ?_)
  | ((with_reducible refine (?_ : We _ (.Name "tuple" _) _ _ _)); refine we_ty (Tx.f_tuple (by assumption)) boot_tuple' ?_)
  | ((with_reducible refine (?_ : We _ (.Name "list" _) _ _ _)); refine we_ty (Tx.f_list (by assumption)) boot_list' ?_)
  | refine we_glob (Tx.int (by assumption)) (fun _ => .int _) ?_)
local macro_rules | `(tactic| walk_at "b") => `(tactic| first
  | ((with_reducible refine (?_ : We _ (.Call (.Name "len" _) _ _ _) _ _ _)); refine we_callB (Tx.f_len (by assumption)) boot_len ?_; refine wa_cons ?_)
  | ((with_reducible refine (?_ : We _ (.Call (.Name "isinstance" _) _ _ _) _ _ _)); refine we_callB (Tx.f_isinstance (by assumption)) DL.boot_isinstance ?_; refine wa_cons ?_)
  | ((with_reducible refine (?_ : We _ (.Call (.Name "max" _) _ _ _) _ _ _)); refine we_callB (Tx.f_max (by assumption)) boot_max' ?_; refine wa_cons ?_)
  | ((with_reducible refine (?_ : We _ (.Call (.Name "min" _) _ _ _) _ _ _)); refine we_callB (Tx.f_min (by assumption)) boot_min' ?_; refine wa_cons ?_)
  | ((with_reducible refine (?_ : We _ (.Call (.Name "int" _) _ _ _) _ _ _)); refine we_callTy (Tx.f_int (by assumption)) boot_int' ?_; refine wa_cons ?_)
  | ((with_reducible refine (?_ : We _ (.Call (.Name "tuple" _) _ _ _) _ _ _)); refine we_callTy (Tx.f_tuple (by assumption)) boot_tuple' ?_; refine wa_cons ?_)
  | ((with_reducible refine (?_ : We _ (.Call (.Name "list" _) _ _ _) _ _ _)); refine we_callTy (Tx.f_list (by assumption)) boot_list' ?_; refine wa_cons ?_))
local macro_rules | `(tactic| walk_at "k") => `(tactic| first | refine we_int ?_ | refine we_str ?_ | refine we_bl ?_ | refine we_non ?_)
local macro_rules | `(tactic| walk_at "o+") => `(tactic| first | refine od_add ?_)
local macro_rules | `(tactic| walk_at "oe") => `(tactic| first | refine od_eqI ?_ | refine od_eqS ?_)
local macro_rules | `(tactic| walk_at "on") => `(tactic| first | refine od_neI ?_ | refine od_neS ?_)
local macro_rules | `(tactic| walk_at "c") => `(tactic| first | refine cd_int ?_ | refine cd_tup rfl ?_ | refine cd_tupT ?_ | refine cd_lst rfl ?_ | refine cd_lstT ?_)
local macro_rules | `(tactic| walk_at "w") => `(tactic| first
  | ((with_reducible refine (?_ : We _ (.Name _ _) _ _ _)); walk_at "v")
  | ((with_reducible refine (?_ : We _ (.Constant _ _ _) _ _ _)); walk_at "k")
  | ((with_reducible refine (?_ : We _ (.Subscript _ (.Slice _ _ _ _) _) _ _ _)); refine we_slice ?_)
  | ((with_reducible refine (?_ : We _ (.Subscript _ _ _) _ _ _)); refine we_ix (fun _ _ => rfl) ?_)
  | ((with_reducible refine (?_ : We _ (.Call _ _ _ _) _ _ _)); walk_at "b")
  | ((with_reducible refine (?_ : We _ (.BinOp _ _ _ _) _ _ _)); refine we_bin ?_)
  | ((with_reducible refine (?_ : We _ (.Compare _ _ _ _) _ _ _)); refine we_cmp rfl ?_)
  | ((with_reducible refine (?_ : We _ (.UnaryOp .USub _ _) _ _ _)); refine we_un ?_)
  | ((with_reducible refine (?_ : We _ (.Tuple _ _ _) _ _ _)); refine we_tup ?_)
  | ((with_reducible refine (?_ : We _ (.List _ _) _ _ _)); refine we_lst ?_)
  | ((with_reducible refine (?_ : Wa _ [] _ _ _)); refine wa_nil ?_)
  | ((with_reducible refine (?_ : Wa _ (_ :: _) _ _ _)); refine wa_cons ?_)
  | ((with_reducible refine (?_ : Wt _ (.Compare _ _ _ _) _ _ _)); refine wt_cmp rfl ?_)
  | ((with_reducible refine (?_ : Wt _ (.UnaryOp .Not _ _) _ _ _)); refine wt_not ?_)
  | ((with_reducible refine (?_ : Wt _ (.BoolOp _ _ _) _ _ _)); refine wt_bool ?_)
  | ((with_reducible refine (?_ : Ww _ (.BoolOp .And (_ :: _ :: _) _) _ _ _)); refine ww_and ?_)
  | ((with_reducible refine (?_ : Ww _ (.BoolOp .Or (_ :: _ :: _) _) _ _ _)); refine ww_or ?_)
  | ((with_reducible refine (?_ : Ww _ (.BoolOp .And _ _) _ _ _)); refine ww_and1 ?_)
  | ((with_reducible refine (?_ : Ww _ (.BoolOp .Or _ _) _ _ _)); refine ww_or1 ?_)
  | ((with_reducible refine (?_ : Wp _ none _ _ _)); refine wp_none ?_)
  | ((with_reducible refine (?_ : Wp _ (some _) _ _ _)); refine wp_some ?_)
  | ((with_reducible refine (?_ : Od _ (binaryOp .Add) _ _ _ _ _)); refine od_add ?_)
  | ((with_reducible refine (?_ : Od _ (binaryOp .Sub) _ _ _ _ _)); refine od_sub ?_)
  | ((with_reducible refine (?_ : Od _ (binaryOp .Mult) _ _ _ _ _)); refine od_mul ?_)
  | ((with_reducible refine (?_ : Od _ (binaryOp .FloorDiv) _ _ _ _ _)); refine od_fdiv ?_)
  | ((with_reducible refine (?_ : Od _ (binaryOp .Mod) _ _ _ _ _)); refine od_mod ?_)
  | ((with_reducible refine (?_ : Od _ (compareOp .Eq) _ _ _ _ _)); walk_at "oe")
  | ((with_reducible refine (?_ : Od _ (compareOp .NotEq) _ _ _ _ _)); walk_at "on")
  | ((with_reducible refine (?_ : Od _ (compareOp .Lt) _ _ _ _ _)); refine od_lt ?_)
  | ((with_reducible refine (?_ : Od _ (compareOp .LtE) _ _ _ _ _)); refine od_le ?_)
  | ((with_reducible refine (?_ : Od _ (compareOp .Gt) _ _ _ _ _)); refine od_gt ?_)
  | ((with_reducible refine (?_ : Od _ (compareOp .GtE) _ _ _ _ _)); refine od_ge ?_)
  | ((with_reducible refine (?_ : Od _ (compareOp .Is) _ _ _ _ _)); refine od_isN ?_)
  | ((with_reducible refine (?_ : Od _ (compareOp .IsNot) _ _ _ _ _)); refine od_isnotN ?_)
  | ((with_reducible refine (?_ : Ud _ _ _ _ _ _)); refine ud_neg ?_)
  | ((with_reducible refine (?_ : Cd _ (.type _) _ _ _ _)); walk_at "c")
  | ((with_reducible refine (?_ : Id _ _ _ (.dat (.tuple _)) _ _)); refine id_tup (by rfl) ?_)
  | ((with_reducible refine (?_ : ∃ k, Sl.dat (PyData.bool _) = Sl.dat (PyData.bool k) ∧ _)); refine ⟨_, rfl, ?_⟩)
  | ((with_reducible refine (?_ : ∃ i, Sl.dat (PyData.int _) = Sl.dat (PyData.int i) ∧ _)); refine ⟨_, rfl, ?_⟩)
  | ((with_reducible refine (?_ : ∃ ds, datsOf _ = some ds ∧ _ ∧ _)); refine ⟨_, rfl, Nat.le_of_ble_eq_true rfl, ?_⟩)
  | ((with_reducible refine (?_ : Id _ _ _ (.dat _) _ _)); refine id_tup (by rfl) ?_))
section
variable {P : Program} {w : World} {K : PySem.W.Frag} {mg : Str → Option Value} {base : Heap}
local macro_rules | `(tactic| walk_at "hf") => `(tactic| (refine we_fld (C := hsC _) (Tx.cls (by assumption)) (Tx.noat (by assumption)) ?_; walk_at "w"; refine ⟨_, _, _, rfl, hs_ins, rfl, ?_⟩))
/-! see_all -/
abbrev nAl : List Str := ["self", "name", "choices", "rows", "keys", "choice", "entry"]
theorem fs_Al : FnScope nAl ["self", "name", "choices"] dHouseAll.scope := ⟨rfl, rfl, rfl, by decide +kernel, rfl, by decide +kernel, by decide +kernel⟩
structure AlA where
  x : HA
  n : Str
  b : Bool
  cs : List Ch
def sAl (K : PySem.W.Frag) : Spec AlA where
  args := fun y => [.raw (.ref y.x.a), dS y.n, .dat (.list (y.cs.map (chB y.b)))]
  pre := fun y => HaOk y.x ∧ y.cs.length ≤ 1000
  J := fun y => hsR K y.x y.x.m
  M := fun y => hsM y.x
  rt := fun y => dRt K y.x (.all y.n y.cs)
  ex := fun y => dEx K y.x (.all y.n y.cs)
theorem keys_snoc (last : Int) (n : Nat) : keysFrom last (n + 1) = keysFrom last n ++ [.int (last + n + 1)] := by
  unfold keysFrom
  rw [List.range_succ, List.map_append]
  rfl
theorem keys_len (last : Int) (n : Nat) : (keysFrom last n).length = n := by
  unfold keysFrom
  rw [List.length_map, List.length_range]
theorem addAll_drop {names : List Str} {many : Int} {name : Str} {last : Int} {cs : List Ch} {rows : List Row} {k : Nat} {c : Ch} (hc : cs[k]? = some c) : addAll names many name last (cs.drop k) rows k = (match refusal rows names many name c with
    | some r => .error r
    | none => addAll names many name last (cs.drop (k + 1)) (rows ++ [⟨last + k + 1, name, c⟩]) (k + 1)) := by
  obtain ⟨h1, h2⟩ := List.getElem?_eq_some_iff.mp hc
  have e : cs.drop k = c :: cs.drop (k + 1) := by rw [List.drop_eq_getElem_cons h1, h2]
  rw [e]
  rfl
theorem b_Al (T : Tx P K mg) : Body P w K mg base dHouseAll nAl (sAl K) 14 := by
  rintro ⟨x, n, b, cs⟩ cdv A0 outer s W0 E hr ⟨hx, hcl⟩
  have hx : HaOk x := hx
  have hcl : cs.length ≤ 1000 := hcl
  have nd := fs_Al.nd
  have tk : Takes (actOf P w K mg base nAl dHouseAll.qual dHouseAll.scope (He.fAd K dHouseAll.at_) cdv A0 outer s ((sAl K).md ⟨x, n, b, cs⟩) W0 E ((sAl K).ex ⟨x, n, b, cs⟩)).X fun cls d _ H => E cls d H := takes_of rfl rfl rfl rfl
  obtain ⟨fI, hX⟩ := T.raiser (x := "NoMind") (f := "name") (by decide)
  refine wss_cons (ws_if ?_)
  walk_at "w"
  walk_at "w"
  walk_at "hf"
  refine od_niF rfl (.inr rfl) rfl (flat_strs _) ?_
  rw [any_str]
  walk_at "w"
  refine ite_ndec (fun hn => ?_) (fun hn => ?_)
  · refine wss_cons (ws_raise rfl tk hX hr ?_)
    walk_at "w"
    have e : stepH x (.all n cs) = (.error (.noMind n), x.m) := by
      simp only [stepH, stepP]
      rw [if_neg hn]
    exact ⟨_, rfl, .noMind n, by rw [e] <;> rfl, rfl, by rw [e] <;> rfl⟩
  have hn : n ∈ x.names := hn
  refine wss_nil (wss_cons (ws_setI nd ?_))
  walk_at "hf"
  refine ⟨rfl, wss_cons (ws_setI nd ?_)⟩
  repeat walk_at "w"
  refine ⟨rfl, wss_cons (ws_forL (passes_of rfl) rfl ?_)⟩
  walk_at "w"
  refine ⟨_, rfl, fun k ρ' J' => J' = hsR K x x.m ∧ ∃ rows' r5 r6, addAll x.names x.acts.length n x.m.last cs x.m.rows 0 = addAll x.names x.acts.length n x.m.last (cs.drop k) rows' k ∧ RowsOk x.acts.length rows' ∧
    ρ' = [.raw (.ref x.a), dS n, .dat (.list (cs.map (chB b))), .dat (rowsT rows'), .own (keysFrom x.m.last k), r5, r6], ⟨rfl, x.m.rows, _, _, rfl, hx.hs.rows, rfl⟩, ?_, ?_⟩
  · rintro k d ρ' J' hd ⟨rfl, rows', r5, r6, hall, hok, rfl⟩
    rw [List.getElem?_map] at hd
    obtain ⟨c, hc, rfl⟩ := Option.map_eq_some_iff.mp hd
    have hk : k < cs.length := (List.getElem?_eq_some_iff.mp hc).1
    have hl24 := hok.len
    rw [addAll_drop hc] at hall
    refine wg_name 5 ?_ nd
    refine wss_cons (ws_setI nd (we_meth (c_En T) hr (by decide) tk ?_))
    walk_at "w"
    refine ⟨rcv_J hs_ins rfl, ?_⟩
    walk_at "w"
    walk_at "w"
    walk_at "w"
    walk_at "w"
    walk_at "w"
    walk_at "hf"
    repeat walk_at "w"
    refine cd_len (d := .list (keysFrom x.m.last k)) rfl (by show some (keysFrom x.m.last k).length = _; rw [keys_len]) (by omega) ?_
    repeat walk_at "w"
    refine ⟨⟨x, rows', x.m.last + k + 1, n, b, c⟩, rfl, by cases b <;> rfl, ⟨hx, hok⟩, fun z o q => q, fun _ _ h => h, fun z q => q, fun r J' hh => ?_, fun e J' hh => ?_⟩
    · obtain ⟨href, rfl⟩ := hh
      have href : refusal rows' x.names x.acts.length n c = none := href
      rw [href] at hall
      refine ⟨rfl, wss_cons (ws_setI nd ?_)⟩
      repeat walk_at "w"
      refine od_addT (by simp only [List.length_map, List.length_cons, List.length_nil]; omega) ?_
      refine ⟨rfl, wss_cons (ws_append 4 ?_)⟩
      walk_at "w"
      walk_at "w"
      walk_at "w"
      refine id_tup (ds := [.int (x.m.last + k + 1), .str n, chD c]) rfl ?_
      refine ⟨_, rfl, by rw [keys_len]; omega, wss_nil ⟨rfl, rows' ++ [⟨x.m.last + k + 1, n, c⟩], .dat (chB b c), .dat (rowD ⟨x.m.last + k + 1, n, c⟩), hall, ?_, ?_⟩⟩
      · exact hok.add href (k := x.m.last + k + 1) (by rw [List.length_append]; rfl) fun r hr => by
          rcases List.mem_append.mp hr with z | z
          · exact .inr z
          · exact .inl (List.mem_singleton.mp z)
      · rw [keys_snoc, rows_add]
        rfl
    · obtain ⟨_, rf, href, rfl⟩ := hh
      have href : refusal rows' x.names x.acts.length n c = some rf := href
      rw [href] at hall
      have e : stepH x (.all n cs) = (.error rf, x.m) := by
        simp only [stepH, stepP]
        rw [if_pos hn, hall]
      exact ⟨rf, by rw [e] <;> rfl, rfl, by rw [e] <;> rfl⟩
  · rintro ρ' J' ⟨rfl, rows', r5, r6, hall, hok, rfl⟩
    have hall : addAll x.names x.acts.length n x.m.last cs x.m.rows 0 = addAll x.names x.acts.length n x.m.last (cs.drop (cs.map (chB b)).length) rows' (cs.map (chB b)).length := hall
    rw [List.length_map, List.drop_length] at hall
    have e : stepH x (.all n cs) = (.ok (.tuple (keysFrom x.m.last cs.length)), x.m.add rows' (x.m.last + cs.length)) := by
      simp only [stepH, stepP]
      rw [if_pos hn, hall]
      rfl
    rw [show (cs.map (chB b)).length = cs.length from List.length_map _]
    refine wss_cons (ws_exprJ (wj_meth (c_Kp T) hr (by decide) tk ?_))
    walk_at "w"
    refine ⟨rcv_J hs_ins rfl, ?_⟩
    walk_at "w"
    walk_at "w"
    walk_at "w"
    walk_at "w"
    walk_at "hf"
    repeat walk_at "w"
    refine cd_len (d := .list (keysFrom x.m.last cs.length)) rfl (by show some (keysFrom x.m.last cs.length).length = _; rw [keys_len]) (by omega) ?_
    repeat walk_at "w"
    refine icall ⟨x, rows', x.m.last + cs.length⟩ .emp rfl rfl hx.past Cv.emp fr_emp (fun z o q => .inr ⟨q, fun _ => q⟩) (fun r J' hh => ?_) (fun e J' z => z.elim)
    obtain ⟨rfl, rfl⟩ := hh
    refine ⟨rfl, wss_conv Cv.fst (wss_cons (ws_ret ?_))⟩
    repeat walk_at "w"
    exact ⟨_, by rw [e] <;> rfl, rfl, by rw [e] <;> rfl⟩
theorem c_Al (T : Tx P K mg) : Met P w K mg base 15 (hsC K) "see_all" ((sAl K).sp K) :=
  met_of T (b_Al T) rfl T.cls T.meth (by unfold fn; repeat (first | with_reducible exact List.Mem.head _ | apply List.Mem.tail)) rfl rfl fs_Al (fun _ => rfl) (fun y => rfl) (by decide) (fun _ _ _ _ _ _ us h => match us, h with | [_, _, _], _ => rfl)
/-! House.__init__ -/
abbrev nHi : List Str := ["self", "states", "acts", "names"]
theorem fs_Hi : FnScope nHi ["self", "states", "acts", "names"] dHouseInit.scope := ⟨rfl, rfl, rfl, by decide +kernel, rfl, by decide +kernel, by decide +kernel⟩
structure HiA where
  a : Addr
  st : Int
  fa : Bool
  acts : List (List Int)
  fn : Bool
  names : List Str
def sHi (K : PySem.W.Frag) : Spec HiA where
  args := fun y => [.raw (.ref y.a), dI y.st, .dat (sq y.fa (y.acts.map actD)), .dat (sq y.fn (y.names.map .str))]
  pre := fun y => actsOk y.acts y.st
  J := fun y => Res.ins K y.a (hsC K) []
  M := fun y z o => z = y.a
  rt := fun y r J => r = dN ∧ ∃ p, J = hsR K ⟨y.a, p, y.st, y.acts, y.names, ⟨[], 0, []⟩⟩ ⟨[], 0, []⟩
theorem bkW_nil (many : Int) : bkW [] many = .ok := rfl
theorem b_Hi (T : Tx P K mg) : Body P w K mg base dHouseInit nHi (sHi K) 8 := by
  rintro ⟨a, st, fa', acts, fn', names⟩ cdv A0 outer s W0 E hr hacts
  have hacts : actsOk acts st := hacts
  have tk : Takes (actOf P w K mg base nHi dHouseInit.qual dHouseInit.scope (He.fAd K dHouseInit.at_) cdv A0 outer s ((sHi K).md ⟨a, st, fa', acts, fn', names⟩) W0 E ((sHi K).ex ⟨a, st, fa', acts, fn', names⟩)).X fun cls d _ H => E cls d H := takes_of rfl rfl rfl rfl
  refine wss_cons (ws_fld (a := a) (fs := []) T.cls T.noat (fun h o => h) Cv.emp (by decide) ?_)
  refine we_makeF (c_BI T) hr (by decide) tk ?_
  repeat walk_at "w"
  intro a1
  refine ⟨⟨a1, st, fa', acts, false, []⟩, rfl, by cases fa' <;> rfl, ⟨hacts, Nat.zero_le _⟩, rfl, fun z o q => q, fun r J' hh => ?_, fun e J' hh => ?_⟩
  rotate_left
  · exact hh.2.elim
  obtain ⟨rfl, rfl, _⟩ := hh
  refine ⟨rfl, _, rfl, rfl, (fun z => nomatch z), ?_⟩
  walk_at "w"
  refine ⟨rfl, ?_⟩
  refine wss_cons (ws_fld (a := a) (fs := [("_plain", bkS K st acts [])]) T.cls T.noat (fun h o => h) Cv.refl (by show (1 : Nat) < _; decide) ?_)
  walk_at "w"
  walk_at "w"
  walk_at "w"
  refine cd_tupSq ?_
  refine ⟨rfl, (fun z => nomatch z), ?_⟩
  walk_at "w"
  refine ⟨rfl, ?_⟩
  refine wss_cons (ws_fld (a := a) (fs := [("_plain", bkS K st acts []), ("names", dT (names.map .str))]) T.cls T.noat (fun h o => h) Cv.refl (by show (2 : Nat) < _; decide) ?_)
  repeat walk_at "w"
  refine ⟨rfl, (fun z => nomatch z), ?_⟩
  walk_at "w"
  refine ⟨rfl, ?_⟩
  refine wss_cons (ws_fldO (a := a) (fs := [("_plain", bkS K st acts []), ("names", dT (names.map .str)), ("_rows", .dat (rowsT []))]) T.cls T.noat (fun h o => h) Cv.refl (by show (3 : Nat) < _; decide) ?_)
  repeat walk_at "w"
  refine ⟨_, rfl, ?_⟩
  walk_at "w"
  refine ⟨rfl, fun q => ?_⟩
  refine wss_cons (ws_fld (a := a) (fs := [("_plain", bkS K st acts []), ("names", dT (names.map .str)), ("_rows", .dat (rowsT [])), ("_past", .raw (.ref q))]) T.cls T.noat (fun h o => h) Cv.refl (by show (4 : Nat) < _; decide) ?_)
  repeat walk_at "w"
  refine ⟨rfl, (fun z => nomatch z), ?_⟩
  walk_at "w"
  refine ⟨rfl, wss_conv (Cv.cong Cv.refl Cv.fst) (wss_nil ⟨rfl, q, rfl⟩)⟩
theorem c_Hi (T : Tx P K mg) : Mak P w K mg base 9 "House" (hsC K) ((sHi K).sp K) :=
  mak_of T (b_Hi T) rfl T.glo T.mkr (by unfold fn; repeat (first | with_reducible exact List.Mem.head _ | apply List.Mem.tail)) rfl rfl fs_Hi (fun _ => rfl) (fun y => by obtain ⟨a, st, f1, acts, f2, names⟩ := y; cases f1 <;> cases f2 <;> rfl) (by decide) (fun _ _ _ _ _ _ us h => match us, h with | [_, _, _, _], _ => rfl)
end
end KK

namespace KK
open PySem PySem.Spec PyProof.Rows L2 DL
local macro_rules | `(tactic| walk_at "v") => `(tactic| first
  | refine we_varI ?_
  | refine we_varOI ?_
  | ((with_reducible refine (?_ : We _ (.Name "int" _) _ _ _)); refine we_ty (Tx.f_int (by assumption)) boot_int' ?_)
  | ((with_reducible refine (?_ : We _ (.Name "bool" _) _ _ _)); refine we_ty (Tx.f_bool (by assumption)) boot_bool' ?_)
  | ((with_reducible refine (?_ : We _ (.Name "str" _) _ _ _)); refine we_ty (Tx.f_str (by assumption)) boot_str' ?_)
  | ((with_reducible refine (?_ : We _ (.Name "tuple" _) _ _ _)); refine we_ty (Tx.f_tuple (by assumption)) boot_tuple' ?_)
  | ((with_reducible refine (?_ : We _ (.Name "list" _) _ _ _)); refine we_ty (Tx.f_list (by assumption)) boot_list' ?_)
  | refine we_glob (Tx.int (by assumption)) (fun _ => .int _) ?_)
local macro_rules | `(tactic| walk_at "b") => `(tactic| first
  | ((with_reducible refine (?_ : We _ (.Call (.Name "len" _) _ _ _) _ _ _)); refine we_callB (Tx.f_len (by assumption)) boot_len ?_; refine wa_cons ?_)
  | ((with_reducible refine (?_ : We _ (.Call (.Name "isinstance" _) _ _ _) _ _ _)); refine we_callB (Tx.f_isinstance (by assumption)) DL.boot_isinstance ?_; refine wa_cons ?_)
  | ((with_reducible refine (?_ : We _ (.Call (.Name "max" _) _ _ _) _ _ _)); refine we_callB (Tx.f_max (by assumption)) boot_max' ?_; refine wa_cons ?_)
  | ((with_reducible refine (?_ : We _ (.Call (.Name "min" _) _ _ _) _ _ _)); refine we_callB (Tx.f_min (by assumption)) boot_min' ?_; refine wa_cons ?_)
  | ((with_reducible refine (?_ : We _ (.Call (.Name "int" _) _ _ _) _ _ _)); refine we_callTy (Tx.f_int (by assumption)) boot_int' ?_; refine wa_cons ?_)
  | ((with_reducible refine (?_ : We _ (.Call (.Name "tuple" _) _ _ _) _ _ _)); refine we_callTy (Tx.f_tuple (by assumption)) boot_tuple' ?_; refine wa_cons ?_)
  | ((with_reducible refine (?_ : We _ (.Call (.Name "list" _) _ _ _) _ _ _)); refine we_callTy (Tx.f_list (by assumption)) boot_list' ?_; refine wa_cons ?_))
local macro_rules | `(tactic| walk_at "k") => `(tactic| first | refine we_int ?_ | refine we_str ?_ | refine we_bl ?_ | refine we_non ?_)
local macro_rules | `(tactic| walk_at "o+") => `(tactic| first | refine od_add ?_)
local macro_rules | `(tactic| walk_at "oe") => `(tactic| first | refine od_eqI ?_ | refine od_eqS ?_)
local macro_rules | `(tactic| walk_at "on") => `(tactic| first | refine od_neI ?_ | refine od_neS ?_)
local macro_rules | `(tactic| walk_at "c") => `(tactic| first | refine cd_int ?_ | refine cd_tup rfl ?_ | refine cd_tupT ?_ | refine cd_lst rfl ?_ | refine cd_lstT ?_)
local macro_rules | `(tactic| walk_at "w") => `(tactic| first
  | ((with_reducible refine (?_ : We _ (.Name _ _) _ _ _)); walk_at "v")
  | ((with_reducible refine (?_ : We _ (.Constant _ _ _) _ _ _)); walk_at "k")
  | ((with_reducible refine (?_ : We _ (.Subscript _ (.Slice _ _ _ _) _) _ _ _)); refine we_slice ?_)
  | ((with_reducible refine (?_ : We _ (.Subscript _ _ _) _ _ _)); refine we_ix (fun _ _ => rfl) ?_)
  | ((with_reducible refine (?_ : We _ (.Call _ _ _ _) _ _ _)); walk_at "b")
  | ((with_reducible refine (?_ : We _ (.BinOp _ _ _ _) _ _ _)); refine we_bin ?_)
  | ((with_reducible refine (?_ : We _ (.Compare _ _ _ _) _ _ _)); refine we_cmp rfl ?_)
  | ((with_reducible refine (?_ : We _ (.UnaryOp .USub _ _) _ _ _)); refine we_un ?_)
  | ((with_reducible refine (?_ : We _ (.Tuple _ _ _) _ _ _)); refine we_tup ?_)
  | ((with_reducible refine (?_ : We _ (.List _ _) _ _ _)); refine we_lst ?_)
  | ((with_reducible refine (?_ : Wa _ [] _ _ _)); refine wa_nil ?_)
  | ((with_reducible refine (?_ : Wa _ (_ :: _) _ _ _)); refine wa_cons ?_)
  | ((with_reducible refine (?_ : Wt _ (.Compare _ _ _ _) _ _ _)); refine wt_cmp rfl ?_)
  | ((with_reducible refine (?_ : Wt _ (.UnaryOp .Not _ _) _ _ _)); refine wt_not ?_)
  | ((with_reducible refine (?_ : Wt _ (.BoolOp _ _ _) _ _ _)); refine wt_bool ?_)
  | ((with_reducible refine (?_ : Ww _ (.BoolOp .And (_ :: _ :: _) _) _ _ _)); refine ww_and ?_)
  | ((with_reducible refine (?_ : Ww _ (.BoolOp .Or (_ :: _ :: _) _) _ _ _)); refine ww_or ?_)
  | ((with_reducible refine (?_ : Ww _ (.BoolOp .And _ _) _ _ _)); refine ww_and1 ?_)
  | ((with_reducible refine (?_ : Ww _ (.BoolOp .Or _ _) _ _ _)); refine ww_or1 ?_)
  | ((with_reducible refine (?_ : Wp _ none _ _ _)); refine wp_none ?_)
  | ((with_reducible refine (?_ : Wp _ (some _) _ _ _)); refine wp_some ?_)
  | ((with_reducible refine (?_ : Od _ (binaryOp .Add) _ _ _ _ _)); refine od_add ?_)
  | ((with_reducible refine (?_ : Od _ (binaryOp .Sub) _ _ _ _ _)); refine od_sub ?_)
  | ((with_reducible refine (?_ : Od _ (binaryOp .Mult) _ _ _ _ _)); refine od_mul ?_)
  | ((with_reducible refine (?_ : Od _ (binaryOp .FloorDiv) _ _ _ _ _)); refine od_fdiv ?_)
  | ((with_reducible refine (?_ : Od _ (binaryOp .Mod) _ _ _ _ _)); refine od_mod ?_)
  | ((with_reducible refine (?_ : Od _ (compareOp .Eq) _ _ _ _ _)); walk_at "oe")
  | ((with_reducible refine (?_ : Od _ (compareOp .NotEq) _ _ _ _ _)); walk_at "on")
  | ((with_reducible refine (?_ : Od _ (compareOp .Lt) _ _ _ _ _)); refine od_lt ?_)
  | ((with_reducible refine (?_ : Od _ (compareOp .LtE) _ _ _ _ _)); refine od_le ?_)
  | ((with_reducible refine (?_ : Od _ (compareOp .Gt) _ _ _ _ _)); refine od_gt ?_)
  | ((with_reducible refine (?_ : Od _ (compareOp .GtE) _ _ _ _ _)); refine od_ge ?_)
  | ((with_reducible refine (?_ : Od _ (compareOp .Is) _ _ _ _ _)); refine od_isN ?_)
  | ((with_reducible refine (?_ : Od _ (compareOp .IsNot) _ _ _ _ _)); refine od_isnotN ?_)
  | ((with_reducible refine (?_ : Ud _ _ _ _ _ _)); refine ud_neg ?_)
  | ((with_reducible refine (?_ : Cd _ (.type _) _ _ _ _)); walk_at "c")
  | ((with_reducible refine (?_ : Id _ _ _ (.dat (.tuple _)) _ _)); refine id_tup (by rfl) ?_)
  | ((with_reducible refine (?_ : ∃ k, Sl.dat (PyData.bool _) = Sl.dat (PyData.bool k) ∧ _)); refine ⟨_, rfl, ?_⟩)
  | ((with_reducible refine (?_ : ∃ i, Sl.dat (PyData.int _) = Sl.dat (PyData.int i) ∧ _)); refine ⟨_, rfl, ?_⟩)
  | ((with_reducible refine (?_ : ∃ ds, datsOf _ = some ds ∧ _ ∧ _)); refine ⟨_, rfl, Nat.le_of_ble_eq_true rfl, ?_⟩)
  | ((with_reducible refine (?_ : Id _ _ _ (.dat _) _ _)); refine id_tup (by rfl) ?_))
section
variable {P : Program} {w : World} {K : PySem.W.Frag} {mg : Str → Option Value} {base : Heap}
/-! ### _law_same, of equal data -/
abbrev nSame : List Str := ["told", "due", "k"]
theorem fs_Same : FnScope nSame ["told", "due"] dSame.scope := ⟨rfl, rfl, rfl, by decide +kernel, rfl, by decide +kernel, by decide +kernel⟩
def sameOk : Nat → PyData → Prop
  | _, .none => True
  | _, .bool _ => True
  | _, .int _ => True
  | _, .str _ => True
  | _, .dict _ => False
  | 0, _ => False
  | n + 1, .list ds => ds.length ≤ 100000 ∧ ∀ d ∈ ds, sameOk n d
  | n + 1, .tuple ds => ds.length ≤ 100000 ∧ ∀ d ∈ ds, sameOk n d
def sSame (n : Nat) : Spec PyData where
  args := fun d => [.dat d, .dat d]
  pre := fun d => sameOk n d
  rt := fun d r J => r = dB true
theorem eqv_bool (b : Bool) : PyData.eqv (.bool b) (.bool b) = true := by cases b <;> rfl
local macro_rules | `(tactic| walk_at "isi") => `(tactic| ((repeat walk_at "w"); refine cd_isi rfl rfl rfl ?_; (repeat walk_at "w")))
theorem b_Same (T : Tx P K mg) (n : Nat) (ih : ∀ m, n = m + 1 → Cal P w K mg base n "_law_same" ((sSame m).sp K)) : Body P w K mg base dSame nSame (sSame n) n := by
  intro d cdv A0 outer s W0 E hr hp
  have hp : sameOk n d := hp
  have nd := fs_Same.nd
  have hu := hr.units
  have tk : Takes (actOf P w K mg base nSame dSame.qual dSame.scope (He.fAd K dSame.at_) cdv A0 outer s ((sSame n).md d) W0 E ((sSame n).ex d)).X fun cls d _ H => E cls d H := takes_of rfl rfl rfl rfl
  -- what is behind the first tests, for a list or a tuple
  have rest : ∀ (c : PyData) (ds : List PyData), (c = .list ds ∨ c = .tuple ds) → d = c → Wss (actOf P w K mg base nSame dSame.qual dSame.scope (He.fAd K dSame.at_) cdv A0 outer s ((sSame n).md d) W0 E ((sSame n).ex d)) (dSame.body.drop 6) [.dat c, .dat c, .un] .emp (fun _ J' => (sSame n).rt d dN J') ((sSame n).rt d) (fun _ _ => False) (fun _ _ => False) := by
    intro c ds hc e
    subst e
    obtain ⟨m, hm, hl, hall⟩ : ∃ m, n = m + 1 ∧ ds.length ≤ 100000 ∧ ∀ x ∈ ds, sameOk m x := by
      cases n with
      | zero => rcases hc with e | e <;> (subst e; exact hp.elim)
      | succ m => rcases hc with e | e <;> (subst e; exact ⟨m, rfl, hp.1, hp.2⟩)
    have hlen : dLen d = some ds.length := by rcases hc with e | e <;> (subst e; rfl)
    refine wss_cons (ws_if ?_)
    walk_at "w"
    repeat walk_at "w"
    refine cd_len (d := d) rfl hlen (by omega) ?_
    repeat walk_at "w"
    refine cd_len (d := d) rfl hlen (by omega) ?_
    walk_at "w"
    walk_at "w"
    refine ite_ndec (fun h => absurd rfl h) (fun _ => ?_)
    refine wss_nil (wss_cons ?_)
    refine ws_forR (passes_of rfl) rfl T.free ?_
    repeat walk_at "w"
    refine cd_len (d := d) rfl hlen (by omega) ?_
    refine ⟨_, rfl, by omega, by omega, fun k ρ' J' => J' = .emp ∧ ∃ r, ρ' = [.dat d, .dat d, r], ⟨rfl, _, rfl⟩, ?_, ?_⟩
    · rintro k ρ' J' hk ⟨rfl, r, rfl⟩
      have hk' : k < ds.length := by simpa using hk
      have hat : atI ds (k : Int) = some ds[k] := atI_nat (List.getElem?_eq_getElem hk')
      have idx : ∀ {A : DL.Act} {ρ : List Sl} {R : Sl → Prop}, R (.dat ds[k]) → Id A ρ .emp (.dat d) (dI k) R := fun {A ρ R} h => by
        rcases hc with e | e
        · subst e; exact id_lst rfl hat h
        · subst e; exact id_tup hat h
      refine wg_name 2 ?_ nd
      refine wss_cons (ws_if ?_)
      walk_at "w"
      refine wt_val ?_
      refine we_call (by subst hm; exact ih m rfl) hr (Nat.le_refl _) tk ?_
      repeat walk_at "w"
      refine idx ?_
      repeat walk_at "w"
      refine idx ?_
      walk_at "w"
      refine ⟨ds[k], rfl, rfl, hall _ (List.getElem_mem hk'), fun z o q => q, fun _ _ _ => True.intro, fun z q => q.elim, fun r J' hh => ?_, fun e J' z => z.elim⟩
      subst hh
      refine ⟨true, rfl, ?_⟩
      show if false = true then _ else _
      exact iteF (wss_nil (wss_nil ⟨rfl, _, rfl⟩))
    · rintro ρ' J' ⟨rfl, r, rfl⟩
      refine wss_cons (ws_ret ?_)
      walk_at "w"
      rfl
  cases d with
  | dict _ => cases n <;> exact hp.elim
  | none =>
    refine wss_cons (ws_if ?_)
    repeat walk_at "w"
    refine iteT (wss_cons (ws_ret ?_))
    repeat walk_at "w"
    rfl
  | bool b =>
    refine wss_cons (ws_if ?_)
    repeat walk_at "w"
    refine iteF (wss_nil (wss_cons (ws_if (wt_val ?_))))
    walk_at "isi"
    refine iteT (wss_cons (ws_ret (we_and ?_)))
    walk_at "isi"
    refine iteT (we_one ?_)
    repeat walk_at "w"
    refine od_eqD (d := .bool b) (e := .bool b) (by have := hr.un; show A0.units + 3 + 64 < _; have h3 : A0.units + 3 + 16 * n + 200 < cLine := this; omega) rfl rfl rfl rfl ?_
    rw [eqv_bool]
    rfl
  | int b =>
    refine wss_cons (ws_if ?_)
    repeat walk_at "w"
    refine iteF (wss_nil (wss_cons (ws_if (wt_val ?_))))
    walk_at "isi"
    refine iteF (wss_nil (wss_cons (ws_if (wt_val ?_))))
    walk_at "isi"
    refine iteT (wss_cons (ws_ret (we_and ?_)))
    walk_at "isi"
    refine iteT (we_and ?_)
    refine we_not ?_
    walk_at "isi"
    refine iteT (we_one ?_)
    repeat walk_at "w"
    show dB (decide (b = b)) = dB true
    rw [decide_eq_true rfl]
  | str b =>
    refine wss_cons (ws_if ?_)
    repeat walk_at "w"
    refine iteF (wss_nil (wss_cons (ws_if (wt_val ?_))))
    walk_at "isi"
    refine iteF (wss_nil (wss_cons (ws_if (wt_val ?_))))
    walk_at "isi"
    refine iteF (wss_nil (wss_cons (ws_if (wt_val ?_))))
    walk_at "isi"
    refine iteT (wss_cons (ws_ret (we_and ?_)))
    walk_at "isi"
    refine iteT (we_one ?_)
    repeat walk_at "w"
    show dB (decide (b = b)) = dB true
    rw [decide_eq_true rfl]
  | list ds =>
    refine wss_cons (ws_if ?_)
    repeat walk_at "w"
    refine iteF (wss_nil (wss_cons (ws_if (wt_val ?_))))
    walk_at "isi"
    refine iteF (wss_nil (wss_cons (ws_if (wt_val ?_))))
    walk_at "isi"
    refine iteF (wss_nil (wss_cons (ws_if (wt_val ?_))))
    walk_at "isi"
    refine iteF (wss_nil (wss_cons (ws_if ?_)))
    walk_at "w"
    walk_at "w"
    refine wt_val ?_
    walk_at "isi"
    refine iteF ?_
    refine iteF (wss_nil (wss_cons (ws_if ?_)))
    walk_at "w"
    walk_at "w"
    refine wt_val ?_
    walk_at "isi"
    refine iteT ?_
    walk_at "w"
    walk_at "w"
    refine wt_val ?_
    walk_at "isi"
    refine iteF (wss_nil ?_)
    exact rest _ ds (.inl rfl) rfl
  | tuple ds =>
    refine wss_cons (ws_if ?_)
    repeat walk_at "w"
    refine iteF (wss_nil (wss_cons (ws_if (wt_val ?_))))
    walk_at "isi"
    refine iteF (wss_nil (wss_cons (ws_if (wt_val ?_))))
    walk_at "isi"
    refine iteF (wss_nil (wss_cons (ws_if (wt_val ?_))))
    walk_at "isi"
    refine iteF (wss_nil (wss_cons (ws_if ?_)))
    walk_at "w"
    walk_at "w"
    refine wt_val ?_
    walk_at "isi"
    refine iteT ?_
    walk_at "w"
    walk_at "w"
    refine wt_val ?_
    walk_at "isi"
    refine iteF (wss_nil (wss_cons (ws_if ?_)))
    walk_at "w"
    walk_at "w"
    refine wt_val ?_
    walk_at "isi"
    refine iteF ?_
    refine iteF (wss_nil ?_)
    exact rest _ ds (.inr rfl) rfl
theorem c_Same (T : Tx P K mg) : ∀ n, Cal P w K mg base (n + 1) "_law_same" ((sSame n).sp K) := fun n => by
  have fin : ∀ n, Body P w K mg base dSame nSame (sSame n) n → Cal P w K mg base (n + 1) "_law_same" ((sSame n).sp K) := fun n hb =>
    cal_of T hb rfl T.glo (by unfold fn; repeat (first | with_reducible exact List.Mem.head _ | apply List.Mem.tail)) rfl rfl fs_Same (fun _ => rfl) (fun y => rfl) (by decide) (fun _ _ _ _ _ _ us h => match us, h with | [_, _], _ => rfl)
  induction n with
  | zero => exact fin 0 (b_Same T 0 fun m h => nomatch h)
  | succ n ih => exact fin (n + 1) (b_Same T (n + 1) fun m h => by cases h; exact ih)
end
end KK

namespace KK
open PySem PySem.Spec PyProof.Rows L2 DL
local macro_rules | `(tactic| walk_at "v") => `(tactic| first
  | refine we_varI ?_
  | refine we_varOI ?_
  | ((with_reducible refine (?_ : We _ (.Name "int" _) _ _ _)); refine we_ty (Tx.f_int (by assumption)) boot_int' ?_)
  | ((with_reducible refine (?_ : We _ (.Name "bool" _) _ _ _)); refine we_ty (Tx.f_bool (by assumption)) boot_bool' ?_)
  | ((with_reducible refine (?_ : We _ (.Name "str" _) _ _ _)); refine we_ty (Tx.f_str (by assumption)) boot_str' ?_)
  | ((with_reducible refine (?_ : We _ (.Name "tuple" _) _ _ _)); refine we_ty (Tx.f_tuple (by assumption)) boot_tuple' ?_)
  | ((with_reducible refine (?_ : We _ (.Name "list" _) _ _ _)); refine we_ty (Tx.f_list (by assumption)) boot_list' ?_)
  | refine we_glob (Tx.int (by assumption)) (fun _ => .int _) ?_)
local macro_rules | `(tactic| walk_at "b") => `(tactic| first
  | ((with_reducible refine (?_ : We _ (.Call (.Name "len" _) _ _ _) _ _ _)); refine we_callB (Tx.f_len (by assumption)) boot_len ?_; refine wa_cons ?_)
  | ((with_reducible refine (?_ : We _ (.Call (.Name "isinstance" _) _ _ _) _ _ _)); refine we_callB (Tx.f_isinstance (by assumption)) DL.boot_isinstance ?_; refine wa_cons ?_)
  | ((with_reducible refine (?_ : We _ (.Call (.Name "max" _) _ _ _) _ _ _)); refine we_callB (Tx.f_max (by assumption)) boot_max' ?_; refine wa_cons ?_)
  | ((with_reducible refine (?_ : We _ (.Call (.Name "min" _) _ _ _) _ _ _)); refine we_callB (Tx.f_min (by assumption)) boot_min' ?_; refine wa_cons ?_)
  | ((with_reducible refine (?_ : We _ (.Call (.Name "int" _) _ _ _) _ _ _)); refine we_callTy (Tx.f_int (by assumption)) boot_int' ?_; refine wa_cons ?_)
  | ((with_reducible refine (?_ : We _ (.Call (.Name "tuple" _) _ _ _) _ _ _)); refine we_callTy (Tx.f_tuple (by assumption)) boot_tuple' ?_; refine wa_cons ?_)
  | ((with_reducible refine (?_ : We _ (.Call (.Name "list" _) _ _ _) _ _ _)); refine we_callTy (Tx.f_list (by assumption)) boot_list' ?_; refine wa_cons ?_))
local macro_rules | `(tactic| walk_at "k") => `(tactic| first | refine we_int ?_ | refine we_str ?_ | refine we_bl ?_ | refine we_non ?_)
local macro_rules | `(tactic| walk_at "o+") => `(tactic| first | refine od_add ?_)
local macro_rules | `(tactic| walk_at "oe") => `(tactic| first | refine od_eqI ?_ | refine od_eqS ?_)
local macro_rules | `(tactic| walk_at "on") => `(tactic| first | refine od_neI ?_ | refine od_neS ?_)
local macro_rules | `(tactic| walk_at "c") => `(tactic| first | refine cd_int ?_ | refine cd_tup rfl ?_ | refine cd_tupT ?_ | refine cd_lst rfl ?_ | refine cd_lstT ?_)
local macro_rules | `(tactic| walk_at "w") => `(tactic| first
  | ((with_reducible refine (?_ : We _ (.Name _ _) _ _ _)); walk_at "v")
  | ((with_reducible refine (?_ : We _ (.Constant _ _ _) _ _ _)); walk_at "k")
  | ((with_reducible refine (?_ : We _ (.Subscript _ (.Slice _ _ _ _) _) _ _ _)); refine we_slice ?_)
  | ((with_reducible refine (?_ : We _ (.Subscript _ _ _) _ _ _)); refine we_ix (fun _ _ => rfl) ?_)
  | ((with_reducible refine (?_ : We _ (.Call _ _ _ _) _ _ _)); walk_at "b")
  | ((with_reducible refine (?_ : We _ (.BinOp _ _ _ _) _ _ _)); refine we_bin ?_)
  | ((with_reducible refine (?_ : We _ (.Compare _ _ _ _) _ _ _)); refine we_cmp rfl ?_)
  | ((with_reducible refine (?_ : We _ (.UnaryOp .USub _ _) _ _ _)); refine we_un ?_)
  | ((with_reducible refine (?_ : We _ (.Tuple _ _ _) _ _ _)); refine we_tup ?_)
  | ((with_reducible refine (?_ : We _ (.List _ _) _ _ _)); refine we_lst ?_)
  | ((with_reducible refine (?_ : Wa _ [] _ _ _)); refine wa_nil ?_)
  | ((with_reducible refine (?_ : Wa _ (_ :: _) _ _ _)); refine wa_cons ?_)
  | ((with_reducible refine (?_ : Wt _ (.Compare _ _ _ _) _ _ _)); refine wt_cmp rfl ?_)
  | ((with_reducible refine (?_ : Wt _ (.UnaryOp .Not _ _) _ _ _)); refine wt_not ?_)
  | ((with_reducible refine (?_ : Wt _ (.BoolOp _ _ _) _ _ _)); refine wt_bool ?_)
  | ((with_reducible refine (?_ : Ww _ (.BoolOp .And (_ :: _ :: _) _) _ _ _)); refine ww_and ?_)
  | ((with_reducible refine (?_ : Ww _ (.BoolOp .Or (_ :: _ :: _) _) _ _ _)); refine ww_or ?_)
  | ((with_reducible refine (?_ : Ww _ (.BoolOp .And _ _) _ _ _)); refine ww_and1 ?_)
  | ((with_reducible refine (?_ : Ww _ (.BoolOp .Or _ _) _ _ _)); refine ww_or1 ?_)
  | ((with_reducible refine (?_ : Wp _ none _ _ _)); refine wp_none ?_)
  | ((with_reducible refine (?_ : Wp _ (some _) _ _ _)); refine wp_some ?_)
  | ((with_reducible refine (?_ : Od _ (binaryOp .Add) _ _ _ _ _)); refine od_add ?_)
  | ((with_reducible refine (?_ : Od _ (binaryOp .Sub) _ _ _ _ _)); refine od_sub ?_)
  | ((with_reducible refine (?_ : Od _ (binaryOp .Mult) _ _ _ _ _)); refine od_mul ?_)
  | ((with_reducible refine (?_ : Od _ (binaryOp .FloorDiv) _ _ _ _ _)); refine od_fdiv ?_)
  | ((with_reducible refine (?_ : Od _ (binaryOp .Mod) _ _ _ _ _)); refine od_mod ?_)
  | ((with_reducible refine (?_ : Od _ (compareOp .Eq) _ _ _ _ _)); walk_at "oe")
  | ((with_reducible refine (?_ : Od _ (compareOp .NotEq) _ _ _ _ _)); walk_at "on")
  | ((with_reducible refine (?_ : Od _ (compareOp .Lt) _ _ _ _ _)); refine od_lt ?_)
  | ((with_reducible refine (?_ : Od _ (compareOp .LtE) _ _ _ _ _)); refine od_le ?_)
  | ((with_reducible refine (?_ : Od _ (compareOp .Gt) _ _ _ _ _)); refine od_gt ?_)
  | ((with_reducible refine (?_ : Od _ (compareOp .GtE) _ _ _ _ _)); refine od_ge ?_)
  | ((with_reducible refine (?_ : Od _ (compareOp .Is) _ _ _ _ _)); refine od_isN ?_)
  | ((with_reducible refine (?_ : Od _ (compareOp .IsNot) _ _ _ _ _)); refine od_isnotN ?_)
  | ((with_reducible refine (?_ : Ud _ _ _ _ _ _)); refine ud_neg ?_)
  | ((with_reducible refine (?_ : Cd _ (.type _) _ _ _ _)); walk_at "c")
  | ((with_reducible refine (?_ : Id _ _ _ (.dat (.tuple _)) _ _)); refine id_tup (by rfl) ?_)
  | ((with_reducible refine (?_ : ∃ k, Sl.dat (PyData.bool _) = Sl.dat (PyData.bool k) ∧ _)); refine ⟨_, rfl, ?_⟩)
  | ((with_reducible refine (?_ : ∃ i, Sl.dat (PyData.int _) = Sl.dat (PyData.int i) ∧ _)); refine ⟨_, rfl, ?_⟩)
  | ((with_reducible refine (?_ : ∃ ds, datsOf _ = some ds ∧ _ ∧ _)); refine ⟨_, rfl, Nat.le_of_ble_eq_true rfl, ?_⟩)
  | ((with_reducible refine (?_ : Id _ _ _ (.dat _) _ _)); refine id_tup (by rfl) ?_))
section
variable {P : Program} {w : World} {K : PySem.W.Frag} {mg : Str → Option Value} {base : Heap}
/-! ### the law's own model -/
/-! _law_good -/
abbrev nGd : List Str := ["choice", "many", "left", "word", "right"]
theorem fs_Gd : FnScope nGd ["choice", "many"] dGood.scope := ⟨rfl, rfl, rfl, by decide +kernel, rfl, by decide +kernel, by decide +kernel⟩
def sGd : Spec (Ch × Int) where
  args := fun a => [.dat (chD a.1), dI a.2]
  rt := fun a r J => r = dB (good a.1 a.2)
theorem b_Gd (T : Tx P K mg) : Body P w K mg base dGood nGd sGd 0 := by
  rintro ⟨c, many⟩ cdv A0 outer s W0 E hr hp
  have nd := fs_Gd.nd
  refine wss_cons (ws_asg ?_)
  walk_at "w"
  refine wg_tup (ds := chL c) rfl ?_
  refine wgs_cons (wg_name 2 ?_ nd)
  refine wgs_cons (wg_name 3 ?_ nd)
  refine wgs_cons (wg_name 4 ?_ nd)
  refine wgs_nil (wss_cons (ws_ret (we_and ?_)))
  repeat walk_at "w"
  refine od_inF rfl (.inl rfl) rfl rfl ?_
  rw [words_any]
  walk_at "w"
  show if decide (c.w ∈ words) = true then _ else _
  refine ite_dec (fun g1 => ?_) (fun g1 => ?_)
  rotate_left
  · show dB false = dB (good c many)
    unfold good
    rw [decide_eq_false g1]; rfl
  refine we_and ?_
  repeat walk_at "w"
  refine ite_ndec (fun g2 => ?_) (fun g2 => ?_)
  rotate_left
  · show dB false = dB (good c many)
    unfold good
    rw [decide_eq_true g1, decide_eq_false (fun z => z g2)]; rfl
  refine we_and ?_
  repeat walk_at "w"
  refine cd_min2 rfl ?_
  repeat walk_at "w"
  have em : (if c.r < c.l then c.r else c.l) = min c.l c.r := by
    rw [Int.min_def]
    split <;> split <;> omega
  rw [em]
  refine ite_dec (fun g3 => ?_) (fun g3 => ?_)
  rotate_left
  · show dB false = dB (good c many)
    unfold good
    rw [decide_eq_true g1, decide_eq_true g2, decide_eq_false g3]; rfl
  refine we_one ?_
  repeat walk_at "w"
  refine cd_max2 rfl ?_
  repeat walk_at "w"
  have eM : (if c.r > c.l then c.r else c.l) = max c.l c.r := by
    rw [Int.max_def]
    split <;> split <;> omega
  rw [eM]
  show dB (decide _) = dB (good c many)
  unfold good
  rw [decide_eq_true g1, decide_eq_true g2, decide_eq_true g3]; rfl
theorem c_Gd (T : Tx P K mg) : Cal P w K mg base 1 "_law_good" (sGd.sp K) :=
  cal_of T (b_Gd T) rfl T.glo (by unfold fn; repeat (first | with_reducible exact List.Mem.head _ | apply List.Mem.tail)) rfl rfl fs_Gd (fun _ => rfl) (fun y => rfl) (by decide) (fun _ _ _ _ _ _ us h => match us, h with | [_, _], _ => rfl)
/-! _law_seen -/
abbrev nSn : List Str := ["rows", "name", "seen", "key", "owner", "choice"]
theorem fs_Sn : FnScope nSn ["rows", "name"] dSeen.scope := ⟨rfl, rfl, rfl, by decide +kernel, rfl, by decide +kernel, by decide +kernel⟩
def rowsL (rows : List Row) : PyData := .list (rows.map rowD)
def sSn : Spec (Int × List Row × Str) where
  args := fun a => [.dat (rowsL a.2.1), dS a.2.2]
  pre := fun a => RowsOk a.1 a.2.1
  rt := fun a r J => r = dL ((seenOf a.2.1 a.2.2).map chD)
theorem dedup_take_len (rows : List Row) (name : Str) (i : Nat) : (dedup (chs (rows.take i) name)).length ≤ rows.length := by
  have h1 := dedup_len (chs (rows.take i) name)
  have h2 := chs_len (rows.take i) name
  rw [List.length_take] at h2
  omega
theorem b_Sn (T : Tx P K mg) : Body P w K mg base dSeen nSn sSn 0 := by
  rintro ⟨many, rows, name⟩ cdv A0 outer s W0 E hr hp
  have hp : RowsOk many rows := hp
  have hl := hp.len
  have nd := fs_Sn.nd
  refine wss_cons (ws_setI nd ?_)
  repeat walk_at "w"
  refine ⟨rfl, wss_cons (ws_forL (passes_of rfl) rfl ?_)⟩
  walk_at "w"
  refine ⟨_, rfl, fun k ρ' J' => J' = .emp ∧ ∃ r3 r4 r5, ρ' = [.dat (rowsL rows), dS name, .own ((seenOf (rows.take k) name).map chD), r3, r4, r5], ⟨rfl, _, _, _, rfl⟩, ?_, ?_⟩
  · rintro k d ρ' J' hd ⟨rfl, r3, r4, r5, rfl⟩
    rw [List.getElem?_map] at hd
    obtain ⟨r0, hr0, rfl⟩ := Option.map_eq_some_iff.mp hd
    have eT : rows.take (k + 1) = rows.take k ++ [r0] := by rw [List.take_add_one, hr0]; rfl
    refine wg_tup (ds := [.int r0.key, .str r0.name, chD r0.c]) rfl ?_
    refine wgs_cons (wg_name 3 ?_ nd)
    refine wgs_cons (wg_name 4 ?_ nd)
    refine wgs_cons (wg_name 5 ?_ nd)
    refine wgs_nil (wss_cons (ws_if ?_))
    have hg : ∀ x ∈ seenOf (rows.take k) name, PyData.strOk x.w = true := fun x hx => by
      obtain ⟨r, r1, _, r3⟩ := chs_mem.mp (dedup_mem.mp hx)
      rw [← r3]
      exact words_ok (good_w (hp.good r (List.mem_of_mem_take r1)))
    repeat walk_at "w"
    refine ite_dec (fun hn => ?_) (fun hn => ?_)
    · repeat walk_at "w"
      refine od_niD (d := chD r0.c) (ds := (seenOf (rows.take k) name).map chD) (by have := hr.un; show A0.units + 3 + 65 < _; have h3 : A0.units + 3 + 16 * 0 + 200 < cLine := this; omega) rfl rfl (shaped_ch (words_ok (good_w (hp.good r0 (List.mem_of_getElem? hr0))))) (shaped_chs hg) ?_
      rw [any_ch]
      walk_at "w"
      refine ite_ndec (fun hm => ?_) (fun hm => ?_)
      · refine wss_cons (ws_append 2 ?_)
        walk_at "w"
        refine ⟨_, rfl, ?_, wss_nil (wss_nil ⟨rfl, dI r0.key, dS r0.name, .dat (chD r0.c), ?_⟩)⟩
        · rw [List.length_map]
          have := dedup_take_len rows name k
          show (dedup (chs (rows.take k) name)).length < _
          omega
        · unfold seenOf at hm ⊢
          rw [eT, chs_snoc, if_pos hn, dedup_snoc]
          unfold put1
          rw [if_neg hm, List.map_append]
          rfl
      · refine wss_nil (wss_nil ⟨rfl, dI r0.key, dS r0.name, .dat (chD r0.c), ?_⟩)
        unfold seenOf at hm ⊢
        rw [eT, chs_snoc, if_pos hn, dedup_snoc]
        unfold put1
        rw [if_pos hm]
        rfl
    · refine wss_nil (wss_nil ⟨rfl, dI r0.key, dS r0.name, .dat (chD r0.c), ?_⟩)
      unfold seenOf
      rw [eT, chs_snoc, if_neg hn, List.append_nil]
      rfl
  · rintro ρ' J' ⟨rfl, r3, r4, r5, rfl⟩
    refine wss_cons (ws_ret ?_)
    walk_at "w"
    show dL _ = dL _
    rw [List.length_map, List.take_length]
theorem c_Sn (T : Tx P K mg) : Cal P w K mg base 1 "_law_seen" (sSn.sp K) :=
  cal_of T (b_Sn T) rfl T.glo (by unfold fn; repeat (first | with_reducible exact List.Mem.head _ | apply List.Mem.tail)) rfl rfl fs_Sn (fun _ => rfl) (fun y => rfl) (by decide) (fun _ _ _ _ _ _ us h => match us, h with | [_, _], _ => rfl)
/-! _law_refusal -/
abbrev nRf : List Str := ["rows", "names", "many", "name", "choice", "seen"]
theorem fs_Rf : FnScope nRf ["rows", "names", "many", "name", "choice"] dRefusal.scope := ⟨rfl, rfl, rfl, by decide +kernel, rfl, by decide +kernel, by decide +kernel⟩
structure RfA where
  rows : List Row
  names : List Str
  many : Int
  name : Str
  c : Ch
def refOD : Option Ref → PyData
  | none => .tuple []
  | some r => refD r
def sRf : Spec RfA where
  args := fun a => [.dat (rowsL a.rows), dL (a.names.map .str), dI a.many, dS a.name, .dat (chD a.c)]
  pre := fun a => RowsOk a.many a.rows
  rt := fun a r J => r = .dat (refOD (refusal a.rows a.names a.many a.name a.c))
theorem b_Rf (T : Tx P K mg) : Body P w K mg base dRefusal nRf sRf 1 := by
  rintro ⟨rows, names, many, name, c⟩ cdv A0 outer s W0 E hr hp
  have hp : RowsOk many rows := hp
  have hl := hp.len
  have h8 := hp.few name
  have nd := fs_Rf.nd
  have tk : Takes (actOf P w K mg base nRf dRefusal.qual dRefusal.scope (He.fAd K dRefusal.at_) cdv A0 outer s (sRf.md ⟨rows, names, many, name, c⟩) W0 E (sRf.ex ⟨rows, names, many, name, c⟩)).X fun cls d _ H => E cls d H := takes_of rfl rfl rfl rfl
  refine wss_cons (ws_if ?_)
  repeat walk_at "w"
  refine od_niF rfl (.inl rfl) rfl (flat_strs _) ?_
  rw [any_str]
  walk_at "w"
  refine ite_ndec (fun hn => ?_) (fun hn => ?_)
  · refine wss_cons (ws_ret ?_)
    walk_at "w"
    walk_at "w"
    walk_at "w"
    walk_at "w"
    refine we_lstF ?_
    repeat walk_at "w"
    show Sl.dat _ = Sl.dat (refOD (refusal rows names many name c))
    unfold refusal
    rw [if_neg hn]
    rfl
  refine wss_nil (wss_cons (ws_if ?_))
  repeat walk_at "w"
  refine cd_len (d := rowsL rows) rfl rfl (by rw [List.length_map]; omega) ?_
  rw [List.length_map]
  repeat walk_at "w"
  refine ite_dec (fun hf => ?_) (fun hf => ?_)
  · refine wss_cons (ws_ret ?_)
    walk_at "w"
    walk_at "w"
    walk_at "w"
    walk_at "w"
    refine we_lstF ?_
    repeat walk_at "w"
    show Sl.dat _ = Sl.dat (refOD (refusal rows names many name c))
    unfold refusal
    rw [if_pos hn, if_neg (by omega)]
    rfl
  refine wss_nil (wss_cons (ws_setI nd (we_call (c_Sn T) hr (by decide) tk ?_)))
  repeat walk_at "w"
  refine ⟨⟨many, rows, name⟩, rfl, rfl, hp, fun z o q => q, fun _ _ _ => True.intro, fun z q => q.elim, fun r J' hh => ?_, fun e J' hh => hh.elim⟩
  subst hh
  refine ⟨rfl, wss_cons (ws_if (wt_not (wt_val ?_)))⟩
  refine we_call (c_Gd T) hr (by decide) tk ?_
  repeat walk_at "w"
  refine ⟨⟨c, many⟩, rfl, rfl, True.intro, fun z o q => q, fun _ _ _ => True.intro, fun z q => q.elim, fun r J' hh => ?_, fun e J' hh => hh.elim⟩
  subst hh
  refine ⟨_, rfl, ?_⟩
  by_cases hg : good c many = true
  rotate_left
  · have hg' : good c many = false := by simpa using hg
    rw [show good (c, many).1 (c, many).2 = false from hg']
    refine iteT (wss_cons (ws_ret ?_))
    walk_at "w"
    walk_at "w"
    walk_at "w"
    walk_at "w"
    refine we_lstF ?_
    repeat walk_at "w"
    refine cd_len (d := .list ((seenOf rows name).map chD)) rfl rfl (by rw [List.length_map]; omega) ?_
    rw [List.length_map]
    repeat walk_at "w"
    show Sl.dat _ = Sl.dat (refOD (refusal rows names many name c))
    unfold refusal
    rw [if_pos hn, if_pos (by omega), if_neg hg]
    rfl
  rw [show good (c, many).1 (c, many).2 = true from hg]
  refine iteF (wss_nil (wss_cons (ws_if ?_)))
  have hgs : ∀ x ∈ seenOf rows name, PyData.strOk x.w = true := fun x hx => words_ok (good_w (seen_good hp x hx))
  repeat walk_at "w"
  refine od_niD (d := chD c) (ds := (seenOf rows name).map chD) (by have := hr.un; show A0.units + 3 + 65 < _; have h3 : A0.units + 3 + 16 * 1 + 200 < cLine := this; omega) rfl rfl (shaped_ch (words_ok (good_w hg))) (shaped_chs hgs) ?_
  rw [any_ch]
  walk_at "w"
  have fin : refusal rows names many name c = none → Wss (actOf P w K mg base nRf dRefusal.qual dRefusal.scope (He.fAd K dRefusal.at_) cdv A0 outer s (sRf.md ⟨rows, names, many, name, c⟩) W0 E (sRf.ex ⟨rows, names, many, name, c⟩)) (dRefusal.body.drop 5) [.dat (rowsL rows), dL (names.map .str), dI many, dS name, .dat (chD c), dL ((seenOf rows name).map chD)] .emp (fun _ J' => sRf.rt ⟨rows, names, many, name, c⟩ dN J') (sRf.rt ⟨rows, names, many, name, c⟩) (fun _ _ => False) (fun _ _ => False) := fun hz => by
    refine wss_cons (ws_ret ?_)
    repeat walk_at "w"
    show Sl.dat _ = Sl.dat (refOD (refusal rows names many name c))
    rw [hz]
    rfl
  refine ite_ndec (fun hm => ?_) (fun hm => ?_)
  · repeat walk_at "w"
    refine cd_len (d := .list ((seenOf rows name).map chD)) rfl rfl (by rw [List.length_map]; omega) ?_
    rw [List.length_map]
    repeat walk_at "w"
    refine ite_dec (fun he => ?_) (fun he => ?_)
    · refine wss_cons (ws_ret ?_)
      walk_at "w"
      walk_at "w"
      walk_at "w"
      walk_at "w"
      refine we_lstF ?_
      repeat walk_at "w"
      show Sl.dat _ = Sl.dat (refOD (refusal rows names many name c))
      unfold refusal
      rw [if_pos hn, if_pos (by omega), if_pos hg, if_neg hm, if_pos (by omega)]
      rfl
    · refine wss_nil (fin ?_)
      unfold refusal
      rw [if_pos hn, if_pos (by omega), if_pos hg, if_neg hm, if_neg (by omega)]
  · refine wss_nil (fin ?_)
    unfold refusal
    rw [if_pos hn, if_pos (by omega), if_pos hg, if_pos hm]
theorem c_Rf (T : Tx P K mg) : Cal P w K mg base 2 "_law_refusal" (sRf.sp K) :=
  cal_of T (b_Rf T) rfl T.glo (by unfold fn; repeat (first | with_reducible exact List.Mem.head _ | apply List.Mem.tail)) rfl rfl fs_Rf (fun _ => rfl) (fun y => rfl) (by decide) (fun _ _ _ _ _ _ us h => match us, h with | [_, _, _, _, _], _ => rfl)
end
end KK

namespace KK
open PySem PySem.Spec PyProof.Rows L2 DL
local macro_rules | `(tactic| walk_at "v") => `(tactic| first
  | refine we_varI ?_
  | refine we_varOI ?_
  | ((with_reducible refine (?_ : We _ (.Name "int" _) _ _ _)); refine we_ty (Tx.f_int (by assumption)) boot_int' ?_)
  | ((with_reducible refine (?_ : We _ (.Name "bool" _) _ _ _)); refine we_ty (Tx.f_bool (by assumption)) boot_bool' ?_)
  | ((with_reducible refine (?_ : We _ (.Name "str" _) _ _ _)); refine we_ty (Tx.f_str (by assumption)) boot_str' ?_)
  | ((with_reducible refine (?_ : We _ (.Name "tuple" _) _ _ _)); refine we_ty (Tx.f_tuple (by assumption)) boot_tuple' ?_)
  | ((with_reducible refine (?_ : We _ (.Name "list" _) _ _ _)); refine we_ty (Tx.f_list (by assumption)) boot_list' ?_)
  | refine we_glob (Tx.int (by assumption)) (fun _ => .int _) ?_)
local macro_rules | `(tactic| walk_at "b") => `(tactic| first
  | ((with_reducible refine (?_ : We _ (.Call (.Name "len" _) _ _ _) _ _ _)); refine we_callB (Tx.f_len (by assumption)) boot_len ?_; refine wa_cons ?_)
  | ((with_reducible refine (?_ : We _ (.Call (.Name "isinstance" _) _ _ _) _ _ _)); refine we_callB (Tx.f_isinstance (by assumption)) DL.boot_isinstance ?_; refine wa_cons ?_)
  | ((with_reducible refine (?_ : We _ (.Call (.Name "max" _) _ _ _) _ _ _)); refine we_callB (Tx.f_max (by assumption)) boot_max' ?_; refine wa_cons ?_)
  | ((with_reducible refine (?_ : We _ (.Call (.Name "min" _) _ _ _) _ _ _)); refine we_callB (Tx.f_min (by assumption)) boot_min' ?_; refine wa_cons ?_)
  | ((with_reducible refine (?_ : We _ (.Call (.Name "int" _) _ _ _) _ _ _)); refine we_callTy (Tx.f_int (by assumption)) boot_int' ?_; refine wa_cons ?_)
  | ((with_reducible refine (?_ : We _ (.Call (.Name "tuple" _) _ _ _) _ _ _)); refine we_callTy (Tx.f_tuple (by assumption)) boot_tuple' ?_; refine wa_cons ?_)
  | ((with_reducible refine (?_ : We _ (.Call (.Name "list" _) _ _ _) _ _ _)); refine we_callTy (Tx.f_list (by assumption)) boot_list' ?_; refine wa_cons ?_))
local macro_rules | `(tactic| walk_at "k") => `(tactic| first | refine we_int ?_ | refine we_str ?_ | refine we_bl ?_ | refine we_non ?_)
local macro_rules | `(tactic| walk_at "o+") => `(tactic| first | refine od_add ?_)
local macro_rules | `(tactic| walk_at "oe") => `(tactic| first | refine od_eqI ?_ | refine od_eqS ?_)
local macro_rules | `(tactic| walk_at "on") => `(tactic| first | refine od_neI ?_ | refine od_neS ?_)
local macro_rules | `(tactic| walk_at "c") => `(tactic| first | refine cd_int ?_ | refine cd_tup rfl ?_ | refine cd_tupT ?_ | refine cd_lst rfl ?_ | refine cd_lstT ?_)
local macro_rules | `(tactic| walk_at "w") => `(tactic| first
  | ((with_reducible refine (?_ : We _ (.Name _ _) _ _ _)); walk_at "v")
  | ((with_reducible refine (?_ : We _ (.Constant _ _ _) _ _ _)); walk_at "k")
  | ((with_reducible refine (?_ : We _ (.Subscript _ (.Slice _ _ _ _) _) _ _ _)); refine we_slice ?_)
  | ((with_reducible refine (?_ : We _ (.Subscript _ _ _) _ _ _)); refine we_ix (fun _ _ => rfl) ?_)
  | ((with_reducible refine (?_ : We _ (.Call _ _ _ _) _ _ _)); walk_at "b")
  | ((with_reducible refine (?_ : We _ (.BinOp _ _ _ _) _ _ _)); refine we_bin ?_)
  | ((with_reducible refine (?_ : We _ (.Compare _ _ _ _) _ _ _)); refine we_cmp rfl ?_)
  | ((with_reducible refine (?_ : We _ (.UnaryOp .USub _ _) _ _ _)); refine we_un ?_)
  | ((with_reducible refine (?_ : We _ (.Tuple _ _ _) _ _ _)); refine we_tup ?_)
  | ((with_reducible refine (?_ : We _ (.List _ _) _ _ _)); refine we_lst ?_)
  | ((with_reducible refine (?_ : Wa _ [] _ _ _)); refine wa_nil ?_)
  | ((with_reducible refine (?_ : Wa _ (_ :: _) _ _ _)); refine wa_cons ?_)
  | ((with_reducible refine (?_ : Wt _ (.Compare _ _ _ _) _ _ _)); refine wt_cmp rfl ?_)
  | ((with_reducible refine (?_ : Wt _ (.UnaryOp .Not _ _) _ _ _)); refine wt_not ?_)
  | ((with_reducible refine (?_ : Wt _ (.BoolOp _ _ _) _ _ _)); refine wt_bool ?_)
  | ((with_reducible refine (?_ : Ww _ (.BoolOp .And (_ :: _ :: _) _) _ _ _)); refine ww_and ?_)
  | ((with_reducible refine (?_ : Ww _ (.BoolOp .Or (_ :: _ :: _) _) _ _ _)); refine ww_or ?_)
  | ((with_reducible refine (?_ : Ww _ (.BoolOp .And _ _) _ _ _)); refine ww_and1 ?_)
  | ((with_reducible refine (?_ : Ww _ (.BoolOp .Or _ _) _ _ _)); refine ww_or1 ?_)
  | ((with_reducible refine (?_ : Wp _ none _ _ _)); refine wp_none ?_)
  | ((with_reducible refine (?_ : Wp _ (some _) _ _ _)); refine wp_some ?_)
  | ((with_reducible refine (?_ : Od _ (binaryOp .Add) _ _ _ _ _)); refine od_add ?_)
  | ((with_reducible refine (?_ : Od _ (binaryOp .Sub) _ _ _ _ _)); refine od_sub ?_)
  | ((with_reducible refine (?_ : Od _ (binaryOp .Mult) _ _ _ _ _)); refine od_mul ?_)
  | ((with_reducible refine (?_ : Od _ (binaryOp .FloorDiv) _ _ _ _ _)); refine od_fdiv ?_)
  | ((with_reducible refine (?_ : Od _ (binaryOp .Mod) _ _ _ _ _)); refine od_mod ?_)
  | ((with_reducible refine (?_ : Od _ (compareOp .Eq) _ _ _ _ _)); walk_at "oe")
  | ((with_reducible refine (?_ : Od _ (compareOp .NotEq) _ _ _ _ _)); walk_at "on")
  | ((with_reducible refine (?_ : Od _ (compareOp .Lt) _ _ _ _ _)); refine od_lt ?_)
  | ((with_reducible refine (?_ : Od _ (compareOp .LtE) _ _ _ _ _)); refine od_le ?_)
  | ((with_reducible refine (?_ : Od _ (compareOp .Gt) _ _ _ _ _)); refine od_gt ?_)
  | ((with_reducible refine (?_ : Od _ (compareOp .GtE) _ _ _ _ _)); refine od_ge ?_)
  | ((with_reducible refine (?_ : Od _ (compareOp .Is) _ _ _ _ _)); refine od_isN ?_)
  | ((with_reducible refine (?_ : Od _ (compareOp .IsNot) _ _ _ _ _)); refine od_isnotN ?_)
  | ((with_reducible refine (?_ : Ud _ _ _ _ _ _)); refine ud_neg ?_)
  | ((with_reducible refine (?_ : Cd _ (.type _) _ _ _ _)); walk_at "c")
  | ((with_reducible refine (?_ : Id _ _ _ (.dat (.tuple _)) _ _)); refine id_tup (by rfl) ?_)
  | ((with_reducible refine (?_ : ∃ k, Sl.dat (PyData.bool _) = Sl.dat (PyData.bool k) ∧ _)); refine ⟨_, rfl, ?_⟩)
  | ((with_reducible refine (?_ : ∃ i, Sl.dat (PyData.int _) = Sl.dat (PyData.int i) ∧ _)); refine ⟨_, rfl, ?_⟩)
  | ((with_reducible refine (?_ : ∃ ds, datsOf _ = some ds ∧ _ ∧ _)); refine ⟨_, rfl, Nat.le_of_ble_eq_true rfl, ?_⟩)
  | ((with_reducible refine (?_ : Id _ _ _ (.dat _) _ _)); refine id_tup (by rfl) ?_))
section
variable {P : Program} {w : World} {K : PySem.W.Frag} {mg : Str → Option Value} {base : Heap}
/-! ### _law_after, _law_step -/
abbrev nAf : List Str := ["rows", "last", "names", "many", "deed", "at", "new", "keys", "choice", "due"]
theorem fs_Af : FnScope nAf ["rows", "last", "names", "many", "deed"] dAfter.scope := ⟨rfl, rfl, rfl, by decide +kernel, rfl, by decide +kernel, by decide +kernel⟩
structure AfA where
  rows : List Row
  last : Int
  names : List Str
  many : Int
  d : Deed
def afterP (names : List Str) (many : Int) (rows : List Row) (last : Int) (d : Deed) : Out × List Row × Int := match stepP names many ⟨rows, last, []⟩ d with
  | (.ok v, m) => (.ok v, m.rows, m.last)
  | (.error r, _) => (.error r, rows, last)
def deedOk : Deed → Prop
  | .all _ cs => cs.length ≤ 1000
  | _ => True
def afD (o : Out × List Row × Int) : PyData := .tuple [outD o.1, rowsL o.2.1, .int o.2.2]
def sAf : Spec AfA where
  args := fun a => [.dat (rowsL a.rows), dI a.last, dL (a.names.map .str), dI a.many, .dat (deedD a.d)]
  pre := fun a => RowsOk a.many a.rows ∧ a.d ≠ .undo ∧ deedOk a.d
  rt := fun a r J => r = .dat (afD (afterP a.names a.many a.rows a.last a.d))
theorem atI_last {α : Type} (xs : List α) (x : α) : atI (xs ++ [x]) (-1) = some x := by
  have e : ixN (xs ++ [x]).length (-1) = some xs.length := by
    unfold ixN
    rw [List.length_append, if_neg (by decide), if_pos (by show -((xs.length + 1 : Nat) : Int) ≤ -1; omega)]
    show some ((-1 : Int) + ((xs.length + 1 : Nat) : Int)).toNat = _
    congr 1
    omega
  unfold atI
  rw [e]
  show (xs ++ [x])[xs.length]? = some x
  simp
theorem place_map (rows : List Row) (k : Int) : (rows.map fun r => (r.key, r.name, chD r.c)).findIdx? (fun q : Int × Str × PyData => decide (q.1 = k)) = placeOf rows k := by
  unfold placeOf
  rw [List.findIdx?_map]
  rfl
theorem rows_len_add (a b c : List PyData) (h : a.length + b.length + c.length ≤ 100000) : (a ++ b).length + c.length ≤ 100000 := by
  rw [List.length_append]; exact h
theorem b_Af (T : Tx P K mg) : Body P w K mg base dAfter nAf sAf 2 := by
  rintro ⟨rows, last, names, many, d⟩ cdv A0 outer s W0 E hr ⟨hp, hu, hdk⟩
  have hp : RowsOk many rows := hp
  have hl := hp.len
  have nd := fs_Af.nd
  have tk : Takes (actOf P w K mg base nAf dAfter.qual dAfter.scope (He.fAd K dAfter.at_) cdv A0 outer s (sAf.md ⟨rows, last, names, many, d⟩) W0 E (sAf.ex ⟨rows, last, names, many, d⟩)).X fun cls d _ H => E cls d H := takes_of rfl rfl rfl rfl
  have mlen : (rows.map rowD).length = rows.length := List.length_map _
  -- see, see_late, behind the place
  have tail : ∀ (i : Nat) (dd : List PyData) (n : Str) (c : Ch), i ≤ rows.length → atI dd (-2) = some (.str n) → atI dd (-1) = some (chD c) →
      (∀ r, refusal rows names many n c = some r → afterP names many rows last d = (.error r, rows, last)) → (refusal rows names many n c = none → afterP names many rows last d = (.ok (.int (last + 1)), insAt rows i ⟨last + 1, n, c⟩, last + 1)) →
      Wss (actOf P w K mg base nAf dAfter.qual dAfter.scope (He.fAd K dAfter.at_) cdv A0 outer s (sAf.md ⟨rows, last, names, many, d⟩) W0 E (sAf.ex ⟨rows, last, names, many, d⟩)) (dAfter.body.drop 4) [.dat (rowsL rows), dI last, dL (names.map .str), dI many, dT dd, dI i, .un, .un, .un, .un] .emp (fun _ J' => sAf.rt ⟨rows, last, names, many, d⟩ dN J') (sAf.rt ⟨rows, last, names, many, d⟩) (fun _ _ => False) (fun _ _ => False) := by
    intro i dd n c hi h2 h1 hE hO
    refine wss_cons (ws_setI nd (we_call (c_Rf T) hr (by decide) tk ?_))
    repeat walk_at "w"
    refine id_tup h2 ?_
    repeat walk_at "w"
    refine id_tup h1 ?_
    repeat walk_at "w"
    refine ⟨⟨rows, names, many, n, c⟩, rfl, rfl, hp, fun z o q => q, fun _ _ _ => True.intro, fun z q => q.elim, fun r J' hh => ?_, fun e J' hh => hh.elim⟩
    subst hh
    refine ⟨rfl, wss_cons (ws_if ?_)⟩
    show Wt _ _ [.dat (rowsL rows), dI last, dL (names.map .str), dI many, dT dd, dI i, .un, .un, .un, .dat (refOD (refusal rows names many n c))] _ _
    cases hq : refusal rows names many n c with
    | some r =>
      repeat walk_at "w"
      refine cd_len (d := refD r) rfl rfl (Nat.le_of_ble_eq_true rfl) ?_
      repeat walk_at "w"
      refine ite_dec (fun h => ?_) (fun h => absurd (by show (0 : Int) < ((2 : Nat) : Int); decide) h)
      refine wss_cons (ws_ret ?_)
      repeat walk_at "w"
      show Sl.dat _ = Sl.dat (afD (afterP names many rows last d))
      rw [hE r hq]
      rfl
    | none =>
      repeat walk_at "w"
      refine cd_len (d := .tuple []) rfl rfl (Nat.le_of_ble_eq_true rfl) ?_
      repeat walk_at "w"
      refine ite_dec (fun h => absurd h (by decide)) (fun h => ?_)
      refine wss_nil (wss_cons (ws_ret ?_))
      repeat walk_at "w"
      refine sd_lst rfl ?_
      rw [cut_to (by rw [mlen]; exact hi)]
      repeat walk_at "w"
      refine id_tup h2 ?_
      repeat walk_at "w"
      refine id_tup h1 ?_
      repeat walk_at "w"
      refine od_addL (ds := (rows.map rowD).take i) (es := [.tuple [.int (last + 1), .str n, chD c]]) rfl rfl (by rw [List.length_take, mlen]; show min i _ + 1 ≤ _; omega) ?_
      repeat walk_at "w"
      refine sd_lst rfl ?_
      rw [cut_from (by rw [mlen]; exact hi)]
      refine od_addLF (ds := (rows.map rowD).take i ++ [.tuple [.int (last + 1), .str n, chD c]]) (es := (rows.map rowD).drop i) rfl rfl (by rw [List.length_append, List.length_take, List.length_drop, mlen]; show min i _ + 1 + _ ≤ _; omega) ?_
      repeat walk_at "w"
      show Sl.dat _ = Sl.dat (afD (afterP names many rows last d))
      rw [hO hq]
      unfold afD rowsL insAt
      rw [List.map_append, List.map_append, List.map_take, List.map_drop]
      rfl
  refine wss_cons (ws_setI nd ?_)
  repeat walk_at "w"
  refine cd_len (d := rowsL rows) rfl rfl (by rw [mlen]; omega) ?_
  rw [mlen]
  refine ⟨rfl, wss_cons (ws_if ?_)⟩
  cases d with
  | undo => exact absurd rfl hu
  | see n c =>
    repeat walk_at "w"
    refine ite_dec (fun h => absurd h (by decide)) (fun _ => ?_)
    repeat walk_at "w"
    refine ite_dec (fun h => absurd h (by decide)) (fun _ => ?_)
    refine wss_nil (wss_cons (ws_if ?_))
    repeat walk_at "w"
    refine ite_dec (fun h => absurd h (by decide)) (fun _ => ?_)
    refine wss_nil (wss_cons (ws_if ?_))
    repeat walk_at "w"
    refine ite_dec (fun h => absurd h (by decide)) (fun _ => ?_)
    refine wss_nil (tail rows.length [.str "see", .str n, chD c] n c (Nat.le_refl _) rfl rfl (fun r hq => ?_) (fun hq => ?_))
    · simp only [afterP, stepP, hq]
    · simp only [afterP, stepP, hq, Hs.add]
      unfold insAt
      rw [List.take_length, List.drop_length, List.append_nil]
  | late k n c =>
    repeat walk_at "w"
    refine ite_dec (fun _ => iteT ?_) (fun h => absurd rfl h)
    refine wss_cons (ws_setI nd (we_call (c_place T) hr (by decide) tk ?_))
    repeat walk_at "w"
    refine ⟨⟨rows.map fun r => (r.key, r.name, chD r.c), k⟩, ?_, rfl, by show (rows.map _).length ≤ _; rw [List.length_map]; omega, fun z o q => q, fun _ _ _ => True.intro, fun z q => q.elim, fun r J' hh => ?_, fun e J' hh => hh.elim⟩
    · show _ = [Sl.dat (.list ((rows.map _).map _)), _]
      rw [List.map_map]
      rfl
    obtain ⟨rfl, rfl⟩ := hh
    refine ⟨rfl, wss_cons (ws_if ?_)⟩
    show Wt _ _ [_, _, _, _, _, dI (match (rows.map fun r => (r.key, r.name, chD r.c)).findIdx? (fun q : Int × Str × PyData => decide (q.1 = k)) with | some i => (i : Int) | none => -1), _, _, _, _] _ _
    rw [place_map]
    cases hq : placeOf rows k with
    | none =>
      repeat walk_at "w"
      refine ite_dec (fun _ => ?_) (fun h => absurd (by decide) h)
      refine wss_cons (ws_ret ?_)
      walk_at "w"
      walk_at "w"
      walk_at "w"
      walk_at "w"
      walk_at "w"
      walk_at "w"
      refine we_lstF ?_
      repeat walk_at "w"
      show Sl.dat _ = Sl.dat (afD (afterP names many rows last (.late k n c)))
      simp only [afterP, stepP, hq]
      rfl
    | some i =>
      have hi := placeOf_lt hq
      repeat walk_at "w"
      refine ite_dec (fun h => absurd (show (i : Int) < 0 from h) (by omega)) (fun _ => ?_)
      refine wss_nil (wss_nil (wss_cons (ws_if ?_)))
      repeat walk_at "w"
      refine ite_dec (fun h => absurd h (by decide)) (fun _ => ?_)
      refine wss_nil (wss_cons (ws_if ?_))
      repeat walk_at "w"
      refine ite_dec (fun h => absurd h (by decide)) (fun _ => ?_)
      refine wss_nil (tail i [.str "late", .int k, .str n, chD c] n c (Nat.le_of_lt hi) rfl rfl (fun r hq2 => ?_) (fun hq2 => ?_))
      · simp only [afterP, stepP, hq, hq2]
      · simp only [afterP, stepP, hq, hq2, Hs.add]
  | back k =>
    repeat walk_at "w"
    refine ite_dec (fun h => absurd h (by decide)) (fun _ => ?_)
    repeat walk_at "w"
    refine ite_dec (fun _ => ?_) (fun h => absurd rfl h)
    refine wss_cons (ws_setI nd (we_call (c_place T) hr (by decide) tk ?_))
    repeat walk_at "w"
    refine ⟨⟨rows.map fun r => (r.key, r.name, chD r.c), k⟩, ?_, rfl, by show (rows.map _).length ≤ _; rw [List.length_map]; omega, fun z o q => q, fun _ _ _ => True.intro, fun z q => q.elim, fun r J' hh => ?_, fun e J' hh => hh.elim⟩
    · show _ = [Sl.dat (.list ((rows.map _).map _)), _]
      rw [List.map_map]
      rfl
    obtain ⟨rfl, rfl⟩ := hh
    refine ⟨rfl, wss_cons (ws_if ?_)⟩
    show Wt _ _ [_, _, _, _, _, dI (match (rows.map fun r => (r.key, r.name, chD r.c)).findIdx? (fun q : Int × Str × PyData => decide (q.1 = k)) with | some i => (i : Int) | none => -1), _, _, _, _] _ _
    rw [place_map]
    cases hq : placeOf rows k with
    | none =>
      repeat walk_at "w"
      refine ite_dec (fun _ => ?_) (fun h => absurd (by decide) h)
      refine wss_cons (ws_ret ?_)
      walk_at "w"
      walk_at "w"
      walk_at "w"
      walk_at "w"
      walk_at "w"
      walk_at "w"
      refine we_lstF ?_
      repeat walk_at "w"
      show Sl.dat _ = Sl.dat (afD (afterP names many rows last (.back k)))
      simp only [afterP, stepP, hq]
      rfl
    | some i =>
      have hi := placeOf_lt hq
      repeat walk_at "w"
      refine ite_dec (fun h => absurd (show (i : Int) < 0 from h) (by omega)) (fun _ => ?_)
      refine wss_nil (wss_nil (wss_cons (ws_if ?_)))
      repeat walk_at "w"
      refine ite_dec (fun _ => ?_) (fun h => absurd rfl h)
      refine wss_cons (ws_ret ?_)
      repeat walk_at "w"
      refine sd_lst rfl ?_
      rw [cut_to (by rw [mlen]; omega)]
      repeat walk_at "w"
      refine sd_lst rfl ?_
      rw [show ((i : Int) + 1) = ((i + 1 : Nat) : Int) from rfl, cut_from (by rw [mlen]; omega)]
      refine od_addLF (ds := (rows.map rowD).take i) (es := (rows.map rowD).drop (i + 1)) rfl rfl (by rw [List.length_take, List.length_drop, mlen]; omega) ?_
      repeat walk_at "w"
      show Sl.dat _ = Sl.dat (afD (afterP names many rows last (.back k)))
      simp only [afterP, stepP, hq, Hs.add]
      unfold afD rowsL outAt
      rw [List.map_append, List.map_take, List.map_drop]
      rfl
  | all n cs =>
    have hcl : cs.length ≤ 1000 := hdk
    repeat walk_at "w"
    refine ite_dec (fun h => absurd h (by decide)) (fun _ => ?_)
    repeat walk_at "w"
    refine ite_dec (fun h => absurd h (by decide)) (fun _ => ?_)
    refine wss_nil (wss_cons (ws_if ?_))
    repeat walk_at "w"
    refine ite_dec (fun h => absurd h (by decide)) (fun _ => ?_)
    refine wss_nil (wss_cons (ws_if ?_))
    repeat walk_at "w"
    refine ite_dec (fun _ => ?_) (fun h => absurd rfl h)
    refine wss_cons (ws_if ?_)
    repeat walk_at "w"
    refine od_niF rfl (.inl rfl) rfl (flat_strs _) ?_
    rw [any_str]
    walk_at "w"
    refine ite_ndec (fun hn => ?_) (fun hn => ?_)
    · refine wss_cons (ws_ret ?_)
      walk_at "w"
      walk_at "w"
      walk_at "w"
      walk_at "w"
      walk_at "w"
      walk_at "w"
      refine we_lstF ?_
      repeat walk_at "w"
      show Sl.dat _ = Sl.dat (afD (afterP names many rows last (.all n cs)))
      simp only [afterP, stepP]
      rw [if_neg hn]
      rfl
    refine wss_nil (wss_cons (ws_setI nd ?_))
    repeat walk_at "w"
    refine ⟨rfl, wss_cons (ws_setI nd ?_)⟩
    repeat walk_at "w"
    refine ⟨rfl, wss_cons (ws_forL (passes_of rfl) rfl ?_)⟩
    repeat walk_at "w"
    refine ⟨_, rfl, fun k ρ' J' => J' = .emp ∧ ∃ new r8 r9, addAll names many n last cs rows 0 = addAll names many n last (cs.drop k) new k ∧ RowsOk many new ∧
      ρ' = [.dat (rowsL rows), dI last, dL (names.map .str), dI many, .dat (deedD (.all n cs)), dI rows.length, .own (new.map rowD), .own (keysFrom last k), r8, r9], ⟨rfl, rows, _, _, rfl, hp, rfl⟩, ?_, ?_⟩
    · rintro k d ρ' J' hd ⟨rfl, new, r8, r9, hall, hok, rfl⟩
      rw [List.getElem?_map] at hd
      obtain ⟨c, hc, rfl⟩ := Option.map_eq_some_iff.mp hd
      have hk : k < cs.length := (List.getElem?_eq_some_iff.mp hc).1
      have hl24 := hok.len
      rw [addAll_drop hc] at hall
      refine wg_name 8 ?_ nd
      refine wss_cons (ws_lend 6 9 ?_ nd)
      refine we_call (c_Rf T) hr (by decide) tk ?_
      repeat walk_at "w"
      refine ⟨⟨new, names, many, n, c⟩, rfl, rfl, hok, fun z o q => q, fun _ _ _ => True.intro, fun z q => q.elim, fun r J' hh => ?_, fun e J' hh => hh.elim⟩
      subst hh
      refine ⟨rfl, ?_⟩
      show (thinS (.dat (refOD (refusal new names many n c))) = true ∧ _) ∨ _
      cases hq : refusal new names many n c with
      | some r =>
        rw [hq] at hall
        refine .inr (wss_cons (ws_if ?_))
        repeat walk_at "w"
        refine cd_len (d := refD r) rfl rfl (Nat.le_of_ble_eq_true rfl) ?_
        repeat walk_at "w"
        refine ite_dec (fun h => ?_) (fun h => absurd (by show (0 : Int) < ((2 : Nat) : Int); decide) h)
        refine wss_cons (ws_ret ?_)
        repeat walk_at "w"
        show Sl.dat _ = Sl.dat (afD (afterP names many rows last (.all n cs)))
        simp only [afterP, stepP]
        rw [if_pos hn, hall]
        rfl
      | none =>
        rw [hq] at hall
        refine .inl ⟨rfl, wss_cons (ws_if ?_)⟩
        repeat walk_at "w"
        refine cd_len (d := .tuple []) rfl rfl (Nat.le_of_ble_eq_true rfl) ?_
        repeat walk_at "w"
        refine ite_dec (fun h => absurd h (by decide)) (fun h => ?_)
        refine wss_nil (wss_cons (ws_append 7 ?_))
        repeat walk_at "w"
        refine cd_len (d := .list (keysFrom last k)) rfl (by show some (keysFrom last k).length = _; rw [keys_len]) (by omega) ?_
        repeat walk_at "w"
        refine ⟨_, rfl, by rw [keys_len]; omega, wss_cons (ws_append 6 ?_)⟩
        repeat walk_at "w"
        refine id_lst rfl (atI_last _ _) ?_
        repeat walk_at "w"
        refine ⟨_, rfl, by rw [List.length_map]; omega, wss_nil ⟨rfl, new ++ [⟨last + k + 1, n, c⟩], .dat (chD c), .dat (refOD none), hall, ?_, ?_⟩⟩
        · exact hok.add hq (k := last + k + 1) (by rw [List.length_append]; rfl) fun r hr => by
            rcases List.mem_append.mp hr with z | z
            · exact .inr z
            · exact .inl (List.mem_singleton.mp z)
        · rw [keys_snoc, List.map_append]
          rfl
    · rintro ρ' J' ⟨rfl, new, r8, r9, hall, hok, rfl⟩
      have hall : addAll names many n last cs rows 0 = addAll names many n last (cs.drop (cs.map chD).length) new (cs.map chD).length := hall
      rw [List.length_map, List.drop_length] at hall
      rw [show (cs.map chD).length = cs.length from List.length_map _]
      refine wss_frz 6 (wss_cons (ws_ret ?_))
      repeat walk_at "w"
      refine cd_len (d := .list (keysFrom last cs.length)) rfl (by show some (keysFrom last cs.length).length = _; rw [keys_len]) (by omega) ?_
      repeat walk_at "w"
      show Sl.dat _ = Sl.dat (afD (afterP names many rows last (.all n cs)))
      simp only [afterP, stepP]
      rw [if_pos hn, hall]
      rfl
theorem c_Af (T : Tx P K mg) : Cal P w K mg base 3 "_law_after" (sAf.sp K) :=
  cal_of T (b_Af T) rfl T.glo (by unfold fn; repeat (first | with_reducible exact List.Mem.head _ | apply List.Mem.tail)) rfl rfl fs_Af (fun _ => rfl) (fun y => rfl) (by decide) (fun _ _ _ _ _ _ us h => match us, h with | [_, _, _, _, _], _ => rfl)
end
end KK

namespace KK
open PySem PySem.Spec PyProof.Rows L2 DL
local macro_rules | `(tactic| walk_at "v") => `(tactic| first
  | refine we_varI ?_
  | refine we_varOI ?_
  | ((with_reducible refine (?_ : We _ (.Name "int" _) _ _ _)); refine we_ty (Tx.f_int (by assumption)) boot_int' ?_)
  | ((with_reducible refine (?_ : We _ (.Name "bool" _) _ _ _)); refine we_ty (Tx.f_bool (by assumption)) boot_bool' ?_)
  | ((with_reducible refine (?_ : We _ (.Name "str" _) _ _ _)); refine we_ty (Tx.f_str (by assumption)) boot_str' ?_)
  | ((with_reducible refine (?_ : We _ (.Name "tuple" _) _ _ _)); refine we_ty (Tx.f_tuple (by assumption)) boot_tuple' ?_)
  | ((with_reducible refine (?_ : We _ (.Name "list" _) _ _ _)); refine we_ty (Tx.f_list (by assumption)) boot_list' ?_)
  | refine we_glob (Tx.int (by assumption)) (fun _ => .int _) ?_)
local macro_rules | `(tactic| walk_at "b") => `(tactic| first
  | ((with_reducible refine (?_ : We _ (.Call (.Name "len" _) _ _ _) _ _ _)); refine we_callB (Tx.f_len (by assumption)) boot_len ?_; refine wa_cons ?_)
  | ((with_reducible refine (?_ : We _ (.Call (.Name "isinstance" _) _ _ _) _ _ _)); refine we_callB (Tx.f_isinstance (by assumption)) DL.boot_isinstance ?_; refine wa_cons ?_)
  | ((with_reducible refine (?_ : We _ (.Call (.Name "max" _) _ _ _) _ _ _)); refine we_callB (Tx.f_max (by assumption)) boot_max' ?_; refine wa_cons ?_)
  | ((with_reducible refine (?_ : We _ (.Call (.Name "min" _) _ _ _) _ _ _)); refine we_callB (Tx.f_min (by assumption)) boot_min' ?_; refine wa_cons ?_)
  | ((with_reducible refine (?_ : We _ (.Call (.Name "int" _) _ _ _) _ _ _)); refine we_callTy (Tx.f_int (by assumption)) boot_int' ?_; refine wa_cons ?_)
  | ((with_reducible refine (?_ : We _ (.Call (.Name "tuple" _) _ _ _) _ _ _)); refine we_callTy (Tx.f_tuple (by assumption)) boot_tuple' ?_; refine wa_cons ?_)
  | ((with_reducible refine (?_ : We _ (.Call (.Name "list" _) _ _ _) _ _ _)); refine we_callTy (Tx.f_list (by assumption)) boot_list' ?_; refine wa_cons ?_))
local macro_rules | `(tactic| walk_at "k") => `(tactic| first | refine we_int ?_ | refine we_str ?_ | refine we_bl ?_ | refine we_non ?_)
local macro_rules | `(tactic| walk_at "o+") => `(tactic| first | refine od_add ?_)
local macro_rules | `(tactic| walk_at "oe") => `(tactic| first | refine od_eqI ?_ | refine od_eqS ?_)
local macro_rules | `(tactic| walk_at "on") => `(tactic| first | refine od_neI ?_ | refine od_neS ?_)
local macro_rules | `(tactic| walk_at "c") => `(tactic| first | refine cd_int ?_ | refine cd_tup rfl ?_ | refine cd_tupT ?_ | refine cd_lst rfl ?_ | refine cd_lstT ?_)
local macro_rules | `(tactic| walk_at "w") => `(tactic| first
  | ((with_reducible refine (?_ : We _ (.Name _ _) _ _ _)); walk_at "v")
  | ((with_reducible refine (?_ : We _ (.Constant _ _ _) _ _ _)); walk_at "k")
  | ((with_reducible refine (?_ : We _ (.Subscript _ (.Slice _ _ _ _) _) _ _ _)); refine we_slice ?_)
  | ((with_reducible refine (?_ : We _ (.Subscript _ _ _) _ _ _)); refine we_ix (fun _ _ => rfl) ?_)
  | ((with_reducible refine (?_ : We _ (.Call _ _ _ _) _ _ _)); walk_at "b")
  | ((with_reducible refine (?_ : We _ (.BinOp _ _ _ _) _ _ _)); refine we_bin ?_)
  | ((with_reducible refine (?_ : We _ (.Compare _ _ _ _) _ _ _)); refine we_cmp rfl ?_)
  | ((with_reducible refine (?_ : We _ (.UnaryOp .USub _ _) _ _ _)); refine we_un ?_)
  | ((with_reducible refine (?_ : We _ (.Tuple _ _ _) _ _ _)); refine we_tup ?_)
  | ((with_reducible refine (?_ : We _ (.List _ _) _ _ _)); refine we_lst ?_)
  | ((with_reducible refine (?_ : Wa _ [] _ _ _)); refine wa_nil ?_)
  | ((with_reducible refine (?_ : Wa _ (_ :: _) _ _ _)); refine wa_cons ?_)
  | ((with_reducible refine (?_ : Wt _ (.Compare _ _ _ _) _ _ _)); refine wt_cmp rfl ?_)
  | ((with_reducible refine (?_ : Wt _ (.UnaryOp .Not _ _) _ _ _)); refine wt_not ?_)
  | ((with_reducible refine (?_ : Wt _ (.BoolOp _ _ _) _ _ _)); refine wt_bool ?_)
  | ((with_reducible refine (?_ : Ww _ (.BoolOp .And (_ :: _ :: _) _) _ _ _)); refine ww_and ?_)
  | ((with_reducible refine (?_ : Ww _ (.BoolOp .Or (_ :: _ :: _) _) _ _ _)); refine ww_or ?_)
  | ((with_reducible refine (?_ : Ww _ (.BoolOp .And _ _) _ _ _)); refine ww_and1 ?_)
  | ((with_reducible refine (?_ : Ww _ (.BoolOp .Or _ _) _ _ _)); refine ww_or1 ?_)
  | ((with_reducible refine (?_ : Wp _ none _ _ _)); refine wp_none ?_)
  | ((with_reducible refine (?_ : Wp _ (some _) _ _ _)); refine wp_some ?_)
  | ((with_reducible refine (?_ : Od _ (binaryOp .Add) _ _ _ _ _)); refine od_add ?_)
  | ((with_reducible refine (?_ : Od _ (binaryOp .Sub) _ _ _ _ _)); refine od_sub ?_)
  | ((with_reducible refine (?_ : Od _ (binaryOp .Mult) _ _ _ _ _)); refine od_mul ?_)
  | ((with_reducible refine (?_ : Od _ (binaryOp .FloorDiv) _ _ _ _ _)); refine od_fdiv ?_)
  | ((with_reducible refine (?_ : Od _ (binaryOp .Mod) _ _ _ _ _)); refine od_mod ?_)
  | ((with_reducible refine (?_ : Od _ (compareOp .Eq) _ _ _ _ _)); walk_at "oe")
  | ((with_reducible refine (?_ : Od _ (compareOp .NotEq) _ _ _ _ _)); walk_at "on")
  | ((with_reducible refine (?_ : Od _ (compareOp .Lt) _ _ _ _ _)); refine od_lt ?_)
  | ((with_reducible refine (?_ : Od _ (compareOp .LtE) _ _ _ _ _)); refine od_le ?_)
  | ((with_reducible refine (?_ : Od _ (compareOp .Gt) _ _ _ _ _)); refine od_gt ?_)
  | ((with_reducible refine (?_ : Od _ (compareOp .GtE) _ _ _ _ _)); refine od_ge ?_)
  | ((with_reducible refine (?_ : Od _ (compareOp .Is) _ _ _ _ _)); refine od_isN ?_)
  | ((with_reducible refine (?_ : Od _ (compareOp .IsNot) _ _ _ _ _)); refine od_isnotN ?_)
  | ((with_reducible refine (?_ : Ud _ _ _ _ _ _)); refine ud_neg ?_)
  | ((with_reducible refine (?_ : Cd _ (.type _) _ _ _ _)); walk_at "c")
  | ((with_reducible refine (?_ : Id _ _ _ (.dat (.tuple _)) _ _)); refine id_tup (by rfl) ?_)
  | ((with_reducible refine (?_ : ∃ k, Sl.dat (PyData.bool _) = Sl.dat (PyData.bool k) ∧ _)); refine ⟨_, rfl, ?_⟩)
  | ((with_reducible refine (?_ : ∃ i, Sl.dat (PyData.int _) = Sl.dat (PyData.int i) ∧ _)); refine ⟨_, rfl, ?_⟩)
  | ((with_reducible refine (?_ : ∃ ds, datsOf _ = some ds ∧ _ ∧ _)); refine ⟨_, rfl, Nat.le_of_ble_eq_true rfl, ?_⟩)
  | ((with_reducible refine (?_ : Id _ _ _ (.dat _) _ _)); refine id_tup (by rfl) ?_))
section
variable {P : Program} {w : World} {K : PySem.W.Frag} {mg : Str → Option Value} {base : Heap}
/-! ### _law_step -/
abbrev nSt : List Str := ["model", "names", "many", "deed", "rows", "last", "past", "due", "new", "key"]
theorem fs_St : FnScope nSt ["model", "names", "many", "deed"] dStep.scope := ⟨rfl, rfl, rfl, by decide +kernel, rfl, by decide +kernel, by decide +kernel⟩
def modD (m : Hs) : PyData := .tuple [rowsL m.rows, .int m.last, .list (m.past.map rowsL)]
structure StA where
  m : Hs
  names : List Str
  many : Int
  d : Deed
def sSt : Spec StA where
  args := fun a => [.dat (modD a.m), dL (a.names.map .str), dI a.many, .dat (deedD a.d)]
  pre := fun a => HsOk a.many a.m ∧ a.m.past.length ≤ 10000 ∧ deedOk a.d
  rt := fun a r J => r = dT [outD (stepP a.names a.many a.m a.d).1, modD (stepP a.names a.many a.m a.d).2]
theorem stepP_after {names : List Str} {many : Int} {m : Hs} {d : Deed} (hd : d ≠ .undo) : stepP names many m d = (match afterP names many m.rows m.last d with
    | (.ok v, rows, last) => (.ok v, m.add rows last)
    | (.error r, _) => (.error r, m)) := by
  cases d with
  | undo => exact absurd rfl hd
  | see n c =>
    simp only [stepP, afterP]
    cases refusal m.rows names many n c <;> rfl
  | late k n c =>
    simp only [stepP, afterP]
    cases placeOf m.rows k with
    | none => rfl
    | some i => cases refusal m.rows names many n c <;> rfl
  | back k =>
    simp only [stepP, afterP]
    cases placeOf m.rows k <;> rfl
  | all n cs =>
    simp only [stepP, afterP]
    by_cases h : n ∈ names
    · rw [if_pos h, if_pos h]
      cases addAll names many n m.last cs m.rows 0 <;> rfl
    · rw [if_neg h, if_neg h]
theorem cut_last {α : Type} (xs : List α) : DL.cutD xs none (some (-1)) = xs.dropLast := by
  unfold DL.cutD
  rw [HT.sIx_none, Nat.sub_zero, List.drop_zero, List.dropLast_eq_take]
  show List.take ((-1 : Int) + (xs.length : Int)).toNat xs = _
  congr 1
  omega
theorem b_St (T : Tx P K mg) : Body P w K mg base dStep nSt sSt 3 := by
  rintro ⟨m, names, many, d⟩ cdv A0 outer s W0 E hr ⟨hp, hpl, hdk⟩
  have hp : HsOk many m := hp
  have hpl : m.past.length ≤ 10000 := hpl
  have nd := fs_St.nd
  have tk : Takes (actOf P w K mg base nSt dStep.qual dStep.scope (He.fAd K dStep.at_) cdv A0 outer s (sSt.md ⟨m, names, many, d⟩) W0 E (sSt.ex ⟨m, names, many, d⟩)).X fun cls d _ H => E cls d H := takes_of rfl rfl rfl rfl
  refine wss_cons (ws_asg ?_)
  walk_at "w"
  refine wg_tup (ds := [rowsL m.rows, .int m.last, .list (m.past.map rowsL)]) rfl ?_
  refine wgs_cons (wg_name 4 ?_ nd)
  refine wgs_cons (wg_name 5 ?_ nd)
  refine wgs_cons (wg_name 6 ?_ nd)
  refine wgs_nil (wss_cons (ws_if ?_))
  have rest : d ≠ .undo → Wss (actOf P w K mg base nSt dStep.qual dStep.scope (He.fAd K dStep.at_) cdv A0 outer s (sSt.md ⟨m, names, many, d⟩) W0 E (sSt.ex ⟨m, names, many, d⟩)) (dStep.body.drop 2) [.dat (modD m), dL (names.map .str), dI many, .dat (deedD d), .dat (rowsL m.rows), dI m.last, dL (m.past.map rowsL), .un, .un, .un] .emp (fun _ J' => sSt.rt ⟨m, names, many, d⟩ dN J') (sSt.rt ⟨m, names, many, d⟩) (fun _ _ => False) (fun _ _ => False) := fun hd => by
    have es := stepP_after (names := names) (many := many) (m := m) hd
    refine wss_cons (ws_asg (we_call (c_Af T) hr (by decide) tk ?_))
    repeat walk_at "w"
    refine ⟨⟨m.rows, m.last, names, many, d⟩, rfl, rfl, ⟨hp.rows, hd, hdk⟩, fun z o q => q, fun _ _ _ => True.intro, fun z q => q.elim, fun r J' hh => ?_, fun e J' hh => hh.elim⟩
    have hh : r = .dat (afD (afterP names many m.rows m.last d)) := hh
    subst hh
    generalize afterP names many m.rows m.last d = o at es
    obtain ⟨o, rows', last'⟩ := o
    refine wg_tup (ds := [outD o, rowsL rows', .int last']) rfl ?_
    refine wgs_cons (wg_name 7 ?_ nd)
    refine wgs_cons (wg_name 8 ?_ nd)
    refine wgs_cons (wg_name 9 ?_ nd)
    refine wgs_nil (wss_cons (ws_if ?_))
    cases o with
    | error r =>
      repeat walk_at "w"
      refine ite_dec (fun _ => ?_) (fun h => absurd rfl h)
      refine wss_cons (ws_ret ?_)
      repeat walk_at "w"
      show Sl.dat _ = dT [outD (stepP names many m d).1, modD (stepP names many m d).2]
      rw [es]
    | ok v =>
      repeat walk_at "w"
      refine ite_dec (fun h => absurd h (by decide)) (fun _ => ?_)
      refine wss_nil (wss_cons (ws_ret ?_))
      repeat walk_at "w"
      refine od_addLF (ds := m.past.map rowsL) (es := [rowsL m.rows]) rfl rfl (by rw [List.length_map]; show _ + 1 ≤ _; omega) ?_
      repeat walk_at "w"
      show Sl.dat _ = dT [outD (stepP names many m d).1, modD (stepP names many m d).2]
      rw [es]
      unfold modD Hs.add
      rw [List.map_append]
      rfl
  cases d with
  | undo =>
    repeat walk_at "w"
    refine ite_dec (fun _ => ?_) (fun h => absurd rfl h)
    refine wss_cons (ws_if ?_)
    repeat walk_at "w"
    refine cd_len (d := .list (m.past.map rowsL)) rfl rfl (by rw [List.length_map]; omega) ?_
    rw [List.length_map]
    repeat walk_at "w"
    refine ite_dec (fun h0 => ?_) (fun h0 => ?_)
    · refine wss_cons (ws_ret ?_)
      repeat walk_at "w"
      have e0 : m.past = [] := List.length_eq_zero_iff.mp (by omega)
      show Sl.dat _ = dT [outD (stepP names many m .undo).1, modD (stepP names many m .undo).2]
      simp only [stepP, e0]
      rfl
    · obtain ⟨rs, hrs⟩ : ∃ rs, m.past.getLast? = some rs := by
        cases q : m.past.getLast? with
        | some rs => exact ⟨rs, rfl⟩
        | none => rw [List.getLast?_eq_none_iff] at q; rw [q] at h0; exact absurd rfl h0
      obtain ⟨pre, hpre⟩ := List.getLast?_eq_some_iff.mp hrs
      refine wss_nil (wss_cons (ws_ret ?_))
      repeat walk_at "w"
      refine id_lst (ds := m.past.map rowsL) (d := rowsL rs) rfl (by rw [hpre, List.map_append]; exact atI_last _ _) ?_
      repeat walk_at "w"
      refine sd_lstF (ds := m.past.map rowsL) rfl ?_
      rw [show (-(1 : Int)) = -1 from rfl, cut_last]
      repeat walk_at "w"
      show Sl.dat _ = dT [outD (stepP names many m .undo).1, modD (stepP names many m .undo).2]
      simp only [stepP, hrs]
      rw [← List.map_dropLast]
      rfl
  | _ =>
    repeat walk_at "w"
    refine ite_dec (fun h => absurd h (by decide)) (fun _ => ?_)
    exact wss_nil (rest (fun z => nomatch z))
theorem c_St (T : Tx P K mg) : Cal P w K mg base 4 "_law_step" (sSt.sp K) :=
  cal_of T (b_St T) rfl T.glo (by unfold fn; repeat (first | with_reducible exact List.Mem.head _ | apply List.Mem.tail)) rfl rfl fs_St (fun _ => rfl) (fun y => rfl) (by decide) (fun _ _ _ _ _ _ us h => match us, h with | [_, _, _, _], _ => rfl)
end
end KK

namespace KK
open PySem PySem.Spec PyProof.Rows L2 DL
local macro_rules | `(tactic| walk_at "v") => `(tactic| first
  | refine we_varI ?_
  | refine we_varOI ?_
  | ((with_reducible refine (?_ : We _ (.Name "int" _) _ _ _)); refine we_ty (Tx.f_int (by assumption)) boot_int' ?_)
  | ((with_reducible refine (?_ : We _ (.Name "bool" _) _ _ _)); refine we_ty (Tx.f_bool (by assumption)) boot_bool' ?_)
  | ((with_reducible refine (?_ : We _ (.Name "str" _) _ _ _)); refine we_ty (Tx.f_str (by assumption)) boot_str' ?_)
  | ((with_reducible refine (?_ : We _ (.Name "tuple" _) _ _ _)); refine we_ty (Tx.f_tuple (by assumption)) boot_tuple' ?_)
  | ((with_reducible refine (?_ : We _ (.Name "list" _) _ _ _)); refine we_ty (Tx.f_list (by assumption)) boot_list' ?_)
  | refine we_glob (Tx.int (by assumption)) (fun _ => .int _) ?_)
local macro_rules | `(tactic| walk_at "b") => `(tactic| first
  | ((with_reducible refine (?_ : We _ (.Call (.Name "len" _) _ _ _) _ _ _)); refine we_callB (Tx.f_len (by assumption)) boot_len ?_; refine wa_cons ?_)
  | ((with_reducible refine (?_ : We _ (.Call (.Name "isinstance" _) _ _ _) _ _ _)); refine we_callB (Tx.f_isinstance (by assumption)) DL.boot_isinstance ?_; refine wa_cons ?_)
  | ((with_reducible refine (?_ : We _ (.Call (.Name "max" _) _ _ _) _ _ _)); refine we_callB (Tx.f_max (by assumption)) boot_max' ?_; refine wa_cons ?_)
  | ((with_reducible refine (?_ : We _ (.Call (.Name "min" _) _ _ _) _ _ _)); refine we_callB (Tx.f_min (by assumption)) boot_min' ?_; refine wa_cons ?_)
  | ((with_reducible refine (?_ : We _ (.Call (.Name "int" _) _ _ _) _ _ _)); refine we_callTy (Tx.f_int (by assumption)) boot_int' ?_; refine wa_cons ?_)
  | ((with_reducible refine (?_ : We _ (.Call (.Name "tuple" _) _ _ _) _ _ _)); refine we_callTy (Tx.f_tuple (by assumption)) boot_tuple' ?_; refine wa_cons ?_)
  | ((with_reducible refine (?_ : We _ (.Call (.Name "list" _) _ _ _) _ _ _)); refine we_callTy (Tx.f_list (by assumption)) boot_list' ?_; refine wa_cons ?_))
local macro_rules | `(tactic| walk_at "k") => `(tactic| first | refine we_int ?_ | refine we_str ?_ | refine we_bl ?_ | refine we_non ?_)
local macro_rules | `(tactic| walk_at "o+") => `(tactic| first | refine od_add ?_)
local macro_rules | `(tactic| walk_at "oe") => `(tactic| first | refine od_eqI ?_ | refine od_eqS ?_)
local macro_rules | `(tactic| walk_at "on") => `(tactic| first | refine od_neI ?_ | refine od_neS ?_)
local macro_rules | `(tactic| walk_at "c") => `(tactic| first | refine cd_int ?_ | refine cd_tup rfl ?_ | refine cd_tupT ?_ | refine cd_lst rfl ?_ | refine cd_lstT ?_)
local macro_rules | `(tactic| walk_at "w") => `(tactic| first
  | ((with_reducible refine (?_ : We _ (.Name _ _) _ _ _)); walk_at "v")
  | ((with_reducible refine (?_ : We _ (.Constant _ _ _) _ _ _)); walk_at "k")
  | ((with_reducible refine (?_ : We _ (.Subscript _ (.Slice _ _ _ _) _) _ _ _)); refine we_slice ?_)
  | ((with_reducible refine (?_ : We _ (.Subscript _ _ _) _ _ _)); refine we_ix (fun _ _ => rfl) ?_)
  | ((with_reducible refine (?_ : We _ (.Call _ _ _ _) _ _ _)); walk_at "b")
  | ((with_reducible refine (?_ : We _ (.BinOp _ _ _ _) _ _ _)); refine we_bin ?_)
  | ((with_reducible refine (?_ : We _ (.Compare _ _ _ _) _ _ _)); refine we_cmp rfl ?_)
  | ((with_reducible refine (?_ : We _ (.UnaryOp .USub _ _) _ _ _)); refine we_un ?_)
  | ((with_reducible refine (?_ : We _ (.Tuple _ _ _) _ _ _)); refine we_tup ?_)
  | ((with_reducible refine (?_ : We _ (.List _ _) _ _ _)); refine we_lst ?_)
  | ((with_reducible refine (?_ : Wa _ [] _ _ _)); refine wa_nil ?_)
  | ((with_reducible refine (?_ : Wa _ (_ :: _) _ _ _)); refine wa_cons ?_)
  | ((with_reducible refine (?_ : Wt _ (.Compare _ _ _ _) _ _ _)); refine wt_cmp rfl ?_)
  | ((with_reducible refine (?_ : Wt _ (.UnaryOp .Not _ _) _ _ _)); refine wt_not ?_)
  | ((with_reducible refine (?_ : Wt _ (.BoolOp _ _ _) _ _ _)); refine wt_bool ?_)
  | ((with_reducible refine (?_ : Ww _ (.BoolOp .And (_ :: _ :: _) _) _ _ _)); refine ww_and ?_)
  | ((with_reducible refine (?_ : Ww _ (.BoolOp .Or (_ :: _ :: _) _) _ _ _)); refine ww_or ?_)
  | ((with_reducible refine (?_ : Ww _ (.BoolOp .And _ _) _ _ _)); refine ww_and1 ?_)
  | ((with_reducible refine (?_ : Ww _ (.BoolOp .Or _ _) _ _ _)); refine ww_or1 ?_)
  | ((with_reducible refine (?_ : Wp _ none _ _ _)); refine wp_none ?_)
  | ((with_reducible refine (?_ : Wp _ (some _) _ _ _)); refine wp_some ?_)
  | ((with_reducible refine (?_ : Od _ (binaryOp .Add) _ _ _ _ _)); refine od_add ?_)
  | ((with_reducible refine (?_ : Od _ (binaryOp .Sub) _ _ _ _ _)); refine od_sub ?_)
  | ((with_reducible refine (?_ : Od _ (binaryOp .Mult) _ _ _ _ _)); refine od_mul ?_)
  | ((with_reducible refine (?_ : Od _ (binaryOp .FloorDiv) _ _ _ _ _)); refine od_fdiv ?_)
  | ((with_reducible refine (?_ : Od _ (binaryOp .Mod) _ _ _ _ _)); refine od_mod ?_)
  | ((with_reducible refine (?_ : Od _ (compareOp .Eq) _ _ _ _ _)); walk_at "oe")
  | ((with_reducible refine (?_ : Od _ (compareOp .NotEq) _ _ _ _ _)); walk_at "on")
  | ((with_reducible refine (?_ : Od _ (compareOp .Lt) _ _ _ _ _)); refine od_lt ?_)
  | ((with_reducible refine (?_ : Od _ (compareOp .LtE) _ _ _ _ _)); refine od_le ?_)
  | ((with_reducible refine (?_ : Od _ (compareOp .Gt) _ _ _ _ _)); refine od_gt ?_)
  | ((with_reducible refine (?_ : Od _ (compareOp .GtE) _ _ _ _ _)); refine od_ge ?_)
  | ((with_reducible refine (?_ : Od _ (compareOp .Is) _ _ _ _ _)); refine od_isN ?_)
  | ((with_reducible refine (?_ : Od _ (compareOp .IsNot) _ _ _ _ _)); refine od_isnotN ?_)
  | ((with_reducible refine (?_ : Ud _ _ _ _ _ _)); refine ud_neg ?_)
  | ((with_reducible refine (?_ : Cd _ (.type _) _ _ _ _)); walk_at "c")
  | ((with_reducible refine (?_ : Id _ _ _ (.dat (.tuple _)) _ _)); refine id_tup (by rfl) ?_)
  | ((with_reducible refine (?_ : ∃ k, Sl.dat (PyData.bool _) = Sl.dat (PyData.bool k) ∧ _)); refine ⟨_, rfl, ?_⟩)
  | ((with_reducible refine (?_ : ∃ i, Sl.dat (PyData.int _) = Sl.dat (PyData.int i) ∧ _)); refine ⟨_, rfl, ?_⟩)
  | ((with_reducible refine (?_ : ∃ ds, datsOf _ = some ds ∧ _ ∧ _)); refine ⟨_, rfl, Nat.le_of_ble_eq_true rfl, ?_⟩)
  | ((with_reducible refine (?_ : Id _ _ _ (.dat _) _ _)); refine id_tup (by rfl) ?_))
section
variable {P : Program} {w : World} {K : PySem.W.Frag} {mg : Str → Option Value} {base : Heap}
/-! ### _law_do -/
/-- a def that makes lambdas: its code object is known -/
abbrev BodyC (P : Program) (w : World) (K : PySem.W.Frag) (mg : Str → Option Value) (base : Heap) {α : Type} (d : He.DefD) (N : List Str) (S : Spec α) (k : Nat) : Prop :=
  ∀ (a : α) (A0 : Around) (outer : List PySem.Env) (s : Shared) (W0 : Wd) (E : XK), Room k (A0.deeper (envOfC d.qual d.scope s.heap.objs.size (He.fAd K d.at_) (.ref (He.codeOf K d.at_)))) → S.pre a →
      Wss (actOf P w K mg base N d.qual d.scope (He.fAd K d.at_) (.ref (He.codeOf K d.at_)) A0 outer s (S.md a) W0 E (S.ex a)) d.body (S.args a ++ unN (N.length - (S.args a).length)) (S.J a) (fun _ J' => S.rt a dN J') (S.rt a) (fun _ _ => False) (fun _ _ => False)
theorem fn_okC {α : Type} (S : Spec α) {x qual : Str} {params : Arguments} {body : List Stmt} {sc : Scope} {dvs : List V} {kws : List (Str × V)} {at_ : Str × Option Str} {fd : FuncData} {N ps : List Str} {k : Nat}
    (F : FunD K x qual params body sc dvs kws (He.fAd K at_) fd) (hS : FnScope N ps sc) (hl : ∀ a, (S.args a).length = ps.length) (hs : ∀ a, (S.args a).all isStb = true) (hN : ps.length ≤ N.length)
    (hb : ∀ (a : α) (A0 : Around) (outer : List PySem.Env) (s : Shared) (W0 : Wd) (E : XK), Room k (A0.deeper (envOfC qual sc s.heap.objs.size (He.fAd K at_) (.ref (He.codeOf K at_)))) → S.pre a →
      Wss (actOf P w K mg base N qual sc (He.fAd K at_) (.ref (He.codeOf K at_)) A0 outer s (S.md a) W0 E (S.ex a)) body (S.args a ++ unN (N.length - (S.args a).length)) (S.J a) (fun _ J' => S.rt a dN J') (S.rt a) (fun _ _ => False) (fun _ _ => False)) :
    FnOk P w K mg base (L2.CX P w) (k + 1) (He.fAd K at_) fd ps (S.sp K) := by
  obtain ⟨oc, od, dV, kV, doc, pm, an, cdv, ct, osl, rfl, lk, hcd, _, _⟩ := F.ex
  obtain ⟨c, rfl⟩ := He.codeIn_ref hcd
  have e := He.codeOf_eq lk rfl
  subst e
  refine L2.fn_of lk hcd hS (fun vs H Q E h => ?_) fun A0 outer s H vs Q E hr h => ?_
  · obtain ⟨a, B, _, _, hp, _⟩ := h
    rw [Paired.length hp, hl a]
  · obtain ⟨a, B, ok, nt, hp, hpre, hJ, sep, kr, ke⟩ := h
    have hb' := hb a A0 outer s ⟨B, H⟩ E hr hpre
    refine ⟨_, pss_sem, ?_⟩
    refine hb' ⟨B, H⟩ (L2.start N vs) { nx := fun _ H' => Q .non H', rt := Q } (env_start (N := N) ok nt hp (hs a) hJ (fun z hz => ⟨(sep z hz).1, (sep z hz).2, hz⟩) (by rw [hl a]; exact hN)) (fun e J' v dd W' h1 S1 h2 hb h3 => ke e J' W' v dd h1 S1 h2 hb h3) ⟨fun ρ' J' W' σ' h1 _ E' => kr dN J' W' .non h1 E'.sat .non, fun r J' W' v h1 S1 o1 => kr r J' W' v h1 S1 o1, fun _ _ _ _ z _ _ => z.elim, fun _ _ _ _ z _ _ => z.elim⟩
theorem cal_ofC {α : Type} {S : Spec α} (T : Tx P K mg) {d : He.DefD} {x : Str} {N ps : List Str} {k : Nat} (hb : BodyC P w K mg base d N S k) (ha : d.at_ = (x, none)) (hg : mg x = some (.ref (He.ga K x))) (hd : d ∈ fn) (h1 : d.dfl = []) (h2 : d.kwd = []) (hS : FnScope N ps d.scope) (hl : ∀ a, (S.args a).length = ps.length) (hs : ∀ a, (S.args a).all isStb = true) (hN : ps.length ≤ N.length) (hbi : BindsD d ps) :
    Cal P w K mg base (k + 1) x (S.sp K) := by
  obtain ⟨fd, F⟩ := T.fns d hd
  have e1 : d.dvs K = [] := by unfold He.DefD.dvs; rw [h1]; rfl
  have e2 : d.kws K = [] := by unfold He.DefD.kws; rw [h2]; rfl
  rw [e1, e2] at F
  have e : He.fAd K d.at_ = He.ga K x := by rw [ha]; rfl
  have ok := fn_okC S F hS hl hs hN hb
  have B := binds_of F hbi
  have kp := F.kp
  rw [e] at ok kp
  exact ⟨_, fd, ps, ok, hg, kp, B⟩
theorem ref_mem (r : Ref) : (r.nm, r.f) ∈ tabE := by
  cases r with
  | noMind n => show (("NoMind" : Str), ("name" : Str)) ∈ tabE; decide
  | full => show (("TooMany" : Str), ("limit" : Str)) ∈ tabE; decide
  | bad p => show (("BadChoice" : Str), ("place" : Str)) ∈ tabE; decide
  | many => show (("TooMany" : Str), ("limit" : Str)) ∈ tabE; decide
  | noEntry k => show (("NoEntry" : Str), ("key" : Str)) ∈ tabE; decide
structure Bx (P : Program) (w : World) (K : PySem.W.Frag) (mg : Str → Option Value) (base : Heap) : Prop where
  told : ToldK P w K mg base tabE (He.ga K)
  tb : LamX.TabB base mg (He.codeOf K dDo.at_) (He.tabOf K (He.codeOf K dDo.at_))
abbrev lamQ : Str := (envOfC dDo.qual dDo.scope 0 0 .none).qual ++ "<lambda>"
def tabT (K : PySem.W.Frag) : List (Addr × Str) := [(He.tabOf K (He.codeOf K dDo.at_), lamQ)]
abbrev nDo : List Str := ["house", "deed", "passed", "told", "k", "choice"]
theorem fs_Do : FnScope nDo ["house", "deed"] dDo.scope := ⟨rfl, rfl, rfl, by decide +kernel, rfl, by decide +kernel, by decide +kernel⟩
def strsOk : Deed → Prop
  | .see _ c => PyData.strOk c.w = true
  | .late _ _ c => PyData.strOk c.w = true
  | .all _ cs => ∀ c ∈ cs, PyData.strOk c.w = true
  | _ => True
def doR (K : PySem.W.Frag) (x : HA) (m : Hs) : Res := (Res.tabs (tabT K)).star (hsR K x m)
def doM (x : HA) (z : Addr) (o : HO) : Prop := (∃ ps, o = .tbl ps) ∨ hsM x z o
def sDo (K : PySem.W.Frag) : Spec (HA × Deed) where
  args := fun y => [.raw (.ref y.1.a), .dat (deedD y.2)]
  pre := fun y => HaOk y.1 ∧ deedOk y.2 ∧ strsOk y.2
  J := fun y => doR K y.1 y.1.m
  M := fun y => doM y.1
  rt := fun y r J => J = doR K y.1 (stepH y.1 y.2).2 ∧ r = .dat (outD (stepH y.1 y.2).1)
theorem cv_swap {J1 J2 J3 : Res} : Cv (J1.star (J2.star J3)) (J2.star (J1.star J3)) := Cv.assoc'.trans ((Cv.cong Cv.comm Cv.refl).trans Cv.assoc)
theorem noL_strs (zs : List Str) : noLs (zs.map PyData.str) = true := by
  induction zs with
  | nil => rfl
  | cons z r ih => show (noL (.str z) && _) = true; rw [ih]; rfl
theorem noLs_map {α : Type} (f : α → PyData) (h : ∀ a, noL (f a) = true) (xs : List α) : noLs (xs.map f) = true := by
  induction xs with
  | nil => rfl
  | cons z r ih => show (noL (f z) && _) = true; rw [ih, h]; rfl
theorem noL_rows (rows : List Row) : noL (rowsT rows) = true := noLs_map rowD (fun r => rfl) rows
theorem hs_thin {x : HA} {m : Hs} : (hsR K x m).Thin := by
  refine thin_star (thin_ins fun y hy => ?_) (thin_lst (noLs_map rowsT noL_rows _))
  unfold hsF at hy
  simp only [List.mem_cons, List.not_mem_nil, or_false] at hy
  rcases hy with e | e | e | e | e
  · subst e
    refine thin_insF fun y hy => ?_
    unfold bkF at hy
    simp only [List.mem_cons, List.not_mem_nil, or_false] at hy
    rcases hy with e | e | e
    · subst e; exact (rfl : noL (.int x.st) = true)
    · subst e; exact (noLs_map actD (fun a => noLs_map PyData.int (fun _ => rfl) a) x.acts : noL (.tuple (x.acts.map actD)) = true)
    · subst e; exact (rfl : noL (.tuple []) = true)
  · subst e; exact (noL_strs x.names : noL (.tuple (x.names.map .str)) = true)
  · subst e; exact (noL_rows m.rows : noL (rowsT m.rows) = true)
  · subst e; exact True.intro
  · subst e; exact (rfl : noL (.int m.last) = true)
theorem ok_noL {x : HA} {d : Deed} {v : PyData} (h : (stepH x d).1 = .ok v) : noL v = true := by
  unfold stepH at h
  cases d with
  | undo =>
    simp only [stepP] at h
    split at h <;> (cases h; rfl)
  | back k =>
    simp only [stepP] at h
    split at h
    · cases h
    · cases h; rfl
  | see n c =>
    simp only [stepP] at h
    split at h
    · cases h
    · cases h; rfl
  | late k n c =>
    simp only [stepP] at h
    split at h
    · cases h
    · split at h
      · cases h
      · cases h; rfl
  | all n cs =>
    simp only [stepP] at h
    split at h
    · split at h
      · cases h
      · cases h
        exact noLs_map _ (fun _ => rfl) _
    · cases h
theorem ref_noL (r : Ref) : noL r.d = true := by cases r <;> rfl
theorem eqv_chL (c : Ch) : PyData.eqv (.list (chL c)) (.list (chL c)) = true := by
  simp [chL, PyData.eqv, PyData.eqvAll]
theorem eqv_chLs (cs : List Ch) : PyData.eqv (.list (cs.map (chB true))) (.list (cs.map (chB true))) = true := by
  have key : PyData.eqvAll (cs.map (chB true)) (cs.map (chB true)) = true := by
    induction cs with
    | nil => rfl
    | cons c r ih =>
      show (PyData.eqv (.list (chL c)) (.list (chL c)) && PyData.eqvAll (r.map (chB true)) (r.map (chB true))) = true
      rw [ih, eqv_chL]; rfl
  exact key
theorem lay_chLs {c : Ch} (h : PyData.strOk c.w = true) : (PyData.list (chL c)).canLay0 = true ∧ (PyData.list (chL c)).depth ≤ 60 := by
  have h := shaped_list (lay_chL h)
  exact ⟨h.1, by show 1 ≤ 60; decide⟩
theorem shaped_chL {c : Ch} (h : PyData.strOk c.w = true) : SeqAt.shaped (.list (chL c)) = true := shaped_of (lay_chLs h).1 (Nat.le_trans (lay_chLs h).2 (by decide))
theorem shaped_chLs {cs : List Ch} (h : ∀ c ∈ cs, PyData.strOk c.w = true) : SeqAt.shaped (.list (cs.map (chB true))) = true := by
  have h := shaped_list (ds := cs.map (chB true)) fun d hd => by
    obtain ⟨c, hc, rfl⟩ := List.mem_map.mp hd
    exact lay_chLs (h c hc)
  exact shaped_of h.1 (Nat.le_trans h.2.1 (by decide))
theorem b_Do (T : Tx P K mg) (B : Bx P w K mg base) : BodyC P w K mg base dDo nDo (sDo K) 17 := by
  rintro ⟨x, d⟩ A0 outer s W0 E hr ⟨hx, hdk, hso⟩
  have hx : HaOk x := hx
  have nd := fs_Do.nd
  have fin : ∀ (r : Sl) (J' : Res) (o : Out), Cv J' (doR K x (stepH x d).2) → (stepH x d).1 = o → r = .dat (outD o) → ∃ J2, Cv J' J2 ∧ (sDo K).rt ⟨x, d⟩ (frz r) J2 := fun r J' o cv e1 e2 => by
    subst e2
    exact ⟨_, cv, rfl, by rw [e1]; rfl⟩
  have cvE : ∀ {m' : Hs}, Cv (((hsR K x m').star (Res.tabs (tabT K))).star .emp) (doR K x m') := Cv.trans Cv.fst Cv.comm
  have cvT : ∀ {m' : Hs} {L : Hp} {v : V} {dd : PyData}, Cv (((hsR K x m').star ((Res.tabs (tabT K)).star (Res.tmp K L v dd))).star .emp) ((Res.tmp K L v dd).star (doR K x m')) := Cv.fst.trans (Cv.assoc'.trans (Cv.comm.trans (Cv.cong Cv.refl Cv.comm)))
  -- see, see_late: what is behind the call
  have tail : ∀ (p : Addr) (vs : List V) (c : Ch) (dd : List PyData), vs.length = 3 → atI dd (-1) = some (chD c) → deedD d = .tuple dd → PyData.strOk c.w = true →
      Wss (actOf P w K mg base nDo dDo.qual dDo.scope (He.fAd K dDo.at_) (.ref (He.codeOf K dDo.at_)) A0 outer s ((sDo K).md ⟨x, d⟩) W0 E ((sDo K).ex ⟨x, d⟩)) (dDo.body.drop 5) [.raw (.ref x.a), dT dd, .raw (.ref p), .dat (outD (stepH x d).1), .un, .un] ((Res.tmp K (oneH p vs) (.ref p) (.list (chL c))).star (doR K x (stepH x d).2))
        (fun _ J' => (sDo K).rt ⟨x, d⟩ dN J') ((sDo K).rt ⟨x, d⟩) (fun _ _ => False) (fun _ _ => False) := fun p vs c dd hvs h1 hd2 hso => by
    refine wss_cons (ws_if ?_)
    repeat walk_at "w"
    refine id_tup h1 ?_
    repeat walk_at "w"
    refine od_neV (L := oneH p vs) (d := .list (chL c)) (d2 := .list (chL c)) (by have := hr.un; show A0.units + 3 + 64 < _; have h3 : A0.units + 3 + 16 * 17 + 200 < cLine := this; omega) (fun _ _ h => h.1) rfl (shaped_chL hso) (shaped_chL hso) ?_
    rw [eqv_chL]
    walk_at "w"
    refine iteF (wss_nil (wss_cons (ws_setixH (L := oneH p vs) (F := doR K x (stepH x d).2) (fun q h _ o => .inr (h.elim (fun z => z.elim) id)) lists_one (Cv.cong Cv.hold Cv.refl) ?_)))
    repeat walk_at "w"
    refine id_tup h1 ?_
    repeat walk_at "w"
    refine ⟨p, vs, rfl, upd_same, ?_⟩
    walk_at "w"
    refine ⟨0, 0, rfl, by rw [hvs]; rfl, fun v => ?_⟩
    refine wss_conv Cv.snd (wss_cons (ws_ret ?_))
    walk_at "w"
    exact ⟨rfl, rfl⟩
  cases d with
  | undo =>
    refine wss_cons (ws_if ?_)
    repeat walk_at "w"
    refine ite_dec (fun _ => ?_) (fun h => absurd rfl h)
    refine wss_cons (ws_retJ (wj_out ?_))
    refine wj_told (T := tabT K) (Jd := (hsR K x x.m)) (F := Res.emp) (k := 15) (hsM x) (B).told (B).tb rfl (List.mem_singleton.mpr rfl) (fun p hp _ => by rw [List.mem_singleton.mp hp] <;> rfl) hr (by decide) Cv.emp fr_emp fr_hs (fun z ps => Or.inl ⟨ps, rfl⟩) ?_ ?_ (L := LamX.lamS_by (sc := dDo.scope) (by decide +kernel))
    · exact fun z o q => ⟨q, fun _ => .inr q⟩
    intro W1 Ro outer s H E f c' hr'
    refine wj_meth0 (c_Un T) hr' (by decide) lTakes ?_
    walk_at "w"
    refine ⟨rcv_J (fun _ _ h => h.2.1.1) rfl, ?_⟩
    refine icallT x (Res.tabs (tabT K)) rfl rfl hx Cv.comm frT_tabs (fun z o q => ⟨q, fun _ => q⟩) (fun r J' hh => ?_) (fun e J' z => z.elim)
    obtain ⟨v, e1, rfl, rfl⟩ := hh
    exact ⟨rfl, v, rfl, fin _ _ _ cvE e1 rfl⟩
  | back k =>
    refine wss_cons (ws_if ?_)
    repeat walk_at "w"
    refine ite_dec (fun h => absurd h (by decide)) (fun _ => ?_)
    refine wss_nil (wss_cons (ws_if ?_))
    repeat walk_at "w"
    refine ite_dec (fun _ => ?_) (fun h => absurd rfl h)
    refine wss_cons (ws_retJ (wj_out ?_))
    refine wj_told (T := tabT K) (Jd := (hsR K x x.m)) (F := Res.emp) (k := 15) (hsM x) (B).told (B).tb rfl (List.mem_singleton.mpr rfl) (fun p hp _ => by rw [List.mem_singleton.mp hp] <;> rfl) hr (by decide) Cv.emp fr_emp fr_hs (fun z ps => Or.inl ⟨ps, rfl⟩) ?_ ?_ (L := LamX.lamS_by (sc := dDo.scope) (by decide +kernel))
    · exact fun z o q => ⟨q, fun _ => .inr q⟩
    intro W1 Ro outer s H E f c' hr'
    refine wj_meth (c_Tb T) hr' (by decide) lTakes ?_
    walk_at "w"
    refine ⟨rcv_J (fun _ _ h => h.2.1.1) rfl, ?_⟩
    repeat walk_at "w"
    refine id_tup (ds := [.str "back", .int k]) rfl ?_
    repeat walk_at "w"
    refine icallT (S := sTb K) ⟨x, k⟩ (Res.tabs (tabT K)) rfl rfl hx Cv.comm frT_tabs (fun z o q => ?_) (fun r J' hh => ?_) (fun e J' hh => ?_)
    · exact ⟨q, fun _ => q⟩
    · obtain ⟨v, e1, rfl, rfl⟩ := hh
      exact ⟨rfl, v, rfl, fin _ _ _ cvE e1 rfl⟩
    · obtain ⟨rf, e1, rfl, rfl⟩ := hh
      exact Exists.intro rf.nm ⟨ref_mem rf, rfl, fin _ _ _ cvE e1 rfl⟩
  | see n c =>
    have hso : PyData.strOk c.w = true := hso
    refine wss_cons (ws_if ?_)
    repeat walk_at "w"
    refine ite_dec (fun h => absurd h (by decide)) (fun _ => ?_)
    refine wss_nil (wss_cons (ws_if ?_))
    repeat walk_at "w"
    refine ite_dec (fun h => absurd h (by decide)) (fun _ => ?_)
    refine wss_nil (wss_cons (ws_if ?_))
    repeat walk_at "w"
    refine ite_dec (fun h => absurd h (by decide)) (fun _ => ?_)
    refine wss_nil (wss_cons (ws_setI nd ?_))
    repeat walk_at "w"
    refine ⟨rfl, wss_tmp 2 fun p vs hvs => wss_cons (ws_if ?_)⟩
    repeat walk_at "w"
    refine ite_dec (fun h => absurd h (by decide)) (fun _ => ?_)
    refine wss_cons (ws_setJ 3 (wj_out ?_) nd)
    refine wj_told (T := tabT K) (Jd := ((hsR K x x.m).star (Res.tmp K (oneH p vs) (.ref p) (.list (chL c))))) (F := Res.emp) (k := 15) (hsM x) (B).told (B).tb rfl (List.mem_singleton.mpr rfl) (fun p hp _ => by rw [List.mem_singleton.mp hp] <;> rfl) hr (by decide) (Cv.comm.trans (Cv.assoc.trans Cv.emp)) fr_emp (fr_star fr_hs fr_tmp) (fun z ps => Or.inl ⟨ps, rfl⟩) ?_ ?_ (L := LamX.lamS_by (sc := dDo.scope) (by decide +kernel))
    · exact fun z o q => ⟨.inl q, fun _ => .inr q⟩
    · intro W1 Ro outer s H E f c' hr'
      refine wj_meth (c_Se T) hr' (by decide) lTakes ?_
      walk_at "w"
      refine ⟨rcv_J (fun _ _ h => h.2.1.1.1) rfl, ?_⟩
      repeat walk_at "w"
      refine id_tup (ds := [.str "see", .str n, chD c]) rfl ?_
      repeat walk_at "w"
      refine icallZ (S := sSe K) ⟨x, n, true, c⟩ (Res.tabs (tabT K)) lists_one (.same (.same (.lent .nil))) rfl hx cv_swap frT_tabs (fun z o q => ?_) (fun r J' hh => ?_) (fun e J' hh => ?_)
      · exact ⟨q, fun _ => q⟩
      · obtain ⟨v, e1, rfl, rfl⟩ := hh
        have t := tail p vs c [.str "see", .str n, chD c] hvs rfl rfl hso
        rw [e1] at t
        exact ⟨ok_noL e1, hs_thin, v, rfl, _, cvT, rfl, wss_nil t⟩
      · obtain ⟨rf, e1, rfl, rfl⟩ := hh
        have t := tail p vs c [.str "see", .str n, chD c] hvs rfl rfl hso
        rw [e1] at t
        exact ⟨ref_noL rf, hs_thin, Exists.intro rf.nm ⟨ref_mem rf, rfl, _, cvT, rfl, wss_nil t⟩⟩
  | late k n c =>
    have hso : PyData.strOk c.w = true := hso
    refine wss_cons (ws_if ?_)
    repeat walk_at "w"
    refine ite_dec (fun h => absurd h (by decide)) (fun _ => ?_)
    refine wss_nil (wss_cons (ws_if ?_))
    repeat walk_at "w"
    refine ite_dec (fun h => absurd h (by decide)) (fun _ => ?_)
    refine wss_nil (wss_cons (ws_if ?_))
    repeat walk_at "w"
    refine ite_dec (fun h => absurd h (by decide)) (fun _ => ?_)
    refine wss_nil (wss_cons (ws_setI nd ?_))
    repeat walk_at "w"
    refine ⟨rfl, wss_tmp 2 fun p vs hvs => wss_cons (ws_if ?_)⟩
    repeat walk_at "w"
    refine ite_dec (fun _ => ?_) (fun h => absurd rfl h)
    refine wss_cons (ws_setJ 3 (wj_out ?_) nd)
    refine wj_told (T := tabT K) (Jd := ((hsR K x x.m).star (Res.tmp K (oneH p vs) (.ref p) (.list (chL c))))) (F := Res.emp) (k := 15) (hsM x) (B).told (B).tb rfl (List.mem_singleton.mpr rfl) (fun p hp _ => by rw [List.mem_singleton.mp hp] <;> rfl) hr (by decide) (Cv.comm.trans (Cv.assoc.trans Cv.emp)) fr_emp (fr_star fr_hs fr_tmp) (fun z ps => Or.inl ⟨ps, rfl⟩) ?_ ?_ (L := LamX.lamS_by (sc := dDo.scope) (by decide +kernel))
    · exact fun z o q => ⟨.inl q, fun _ => .inr q⟩
    · intro W1 Ro outer s H E f c' hr'
      refine wj_meth (c_La T) hr' (by decide) lTakes ?_
      walk_at "w"
      refine ⟨rcv_J (fun _ _ h => h.2.1.1.1) rfl, ?_⟩
      repeat walk_at "w"
      refine id_tup (ds := [.str "late", .int k, .str n, chD c]) rfl ?_
      repeat walk_at "w"
      refine id_tup (ds := [.str "late", .int k, .str n, chD c]) rfl ?_
      repeat walk_at "w"
      refine icallZ (S := sLa K) ⟨x, k, n, true, c⟩ (Res.tabs (tabT K)) lists_one (.same (.same (.same (.lent .nil)))) rfl hx cv_swap frT_tabs (fun z o q => ?_) (fun r J' hh => ?_) (fun e J' hh => ?_)
      · exact ⟨q, fun _ => q⟩
      · obtain ⟨v, e1, rfl, rfl⟩ := hh
        have t := tail p vs c [.str "late", .int k, .str n, chD c] hvs rfl rfl hso
        rw [e1] at t
        exact ⟨ok_noL e1, hs_thin, v, rfl, _, cvT, rfl, wss_nil t⟩
      · obtain ⟨rf, e1, rfl, rfl⟩ := hh
        have t := tail p vs c [.str "late", .int k, .str n, chD c] hvs rfl rfl hso
        rw [e1] at t
        exact ⟨ref_noL rf, hs_thin, Exists.intro rf.nm ⟨ref_mem rf, rfl, _, cvT, rfl, wss_nil t⟩⟩
  | all n cs =>
    have hso : ∀ c ∈ cs, PyData.strOk c.w = true := hso
    have hdk : cs.length ≤ 1000 := hdk
    have dda : deedD (.all n cs) = .tuple [.str "all", .str n, .list (cs.map chD)] := rfl
    refine wss_cons (ws_if ?_)
    repeat walk_at "w"
    refine ite_dec (fun h => absurd h (by decide)) (fun _ => ?_)
    refine wss_nil (wss_cons (ws_if ?_))
    repeat walk_at "w"
    refine ite_dec (fun h => absurd h (by decide)) (fun _ => ?_)
    refine wss_nil (wss_cons (ws_if ?_))
    repeat walk_at "w"
    refine ite_dec (fun _ => ?_) (fun h => absurd rfl h)
    refine wss_cons (ws_setJ 2 (wj_lcN [("choice", 5)] 3 rfl nd ?_ (blkOk_by (N := nDo) (sc := dDo.scope) (by decide +kernel))) nd)
    repeat walk_at "w"
    refine ⟨_, rfl, rfl, fun i acc => acc = (cs.take i).map (chB true), rfl, ?_, fun acc L D us he ok hus => ?_⟩
    · rintro i d acc hd rfl
      rw [List.getElem?_map] at hd
      obtain ⟨c, hc, rfl⟩ := Option.map_eq_some_iff.mp hd
      have eT : cs.take (i + 1) = cs.take i ++ [c] := by rw [List.take_add_one, hc]; rfl
      refine ⟨[.raw (.ref x.a), .dat (deedD (.all n cs)), .un, .un, .un, .dat (chD c)], chL c, rfl, fun s H C cl fp L D us => ?_, ?_, rfl, ?_, fun s H C cl fp L D us => ?_⟩
      · exact wgc_name 5 rfl nd
      · rw [List.length_map, List.length_take]; omega
      · show _ = List.map (chB true) (List.take (i + 1) cs)
        rw [eT, List.map_append]; rfl
      · repeat walk_at "w"
        rfl
    have he : acc = (cs.take (cs.map chD).length).map (chB true) := he
    rw [List.length_map, List.take_length] at he
    subst he
    have hus : us.length = cs.length := by rw [hus, List.length_map]
    refine ⟨rfl, wss_cons (ws_setJ 3 (wj_out ?_) nd)⟩
    have tail2 : Wss (actOf P w K mg base nDo dDo.qual dDo.scope (He.fAd K dDo.at_) (.ref (He.codeOf K dDo.at_)) A0 outer s ((sDo K).md ⟨x, .all n cs⟩) W0 E ((sDo K).ex ⟨x, .all n cs⟩)) (match dDo.body.getD 2 (.Pass ⟨0, 0, 0, 0⟩) with | .If _ a _ _ => a.drop 2 | _ => []) [.raw (.ref x.a), dT [.str "all", .str n, .list (cs.map chD)], .raw (.ref D), .dat (outD (stepH x (.all n cs)).1), .un, .un] ((Res.tmp K L (.ref D) (.list (cs.map (chB true)))).star (doR K x (stepH x (.all n cs)).2))
        (fun ρ' J' => Wss (actOf P w K mg base nDo dDo.qual dDo.scope (He.fAd K dDo.at_) (.ref (He.codeOf K dDo.at_)) A0 outer s ((sDo K).md ⟨x, .all n cs⟩) W0 E ((sDo K).ex ⟨x, .all n cs⟩)) (dDo.body.drop 3) ρ' J' (fun _ J' => (sDo K).rt ⟨x, .all n cs⟩ dN J') ((sDo K).rt ⟨x, .all n cs⟩) (fun _ _ => False) (fun _ _ => False)) ((sDo K).rt ⟨x, .all n cs⟩) (fun _ _ => False) (fun _ _ => False) := by
      refine wss_cons (ws_if ?_)
      repeat walk_at "w"
      refine we_lcL [("choice", 5)] rfl nd ?_ (ok := blkOk_by (N := nDo) (sc := dDo.scope) (by decide +kernel))
      repeat walk_at "w"
      refine ⟨_, rfl, rfl, fun i acc => acc = (cs.take i).map (chB true), rfl, ?_, fun acc he => ?_⟩
      · rintro i d acc hd rfl
        rw [List.getElem?_map] at hd
        obtain ⟨c, hc, rfl⟩ := Option.map_eq_some_iff.mp hd
        have eT : cs.take (i + 1) = cs.take i ++ [c] := by rw [List.take_add_one, hc]; rfl
        refine ⟨[.raw (.ref x.a), dT [.str "all", .str n, .list (cs.map chD)], .raw (.ref D), .dat (outD (stepH x (.all n cs)).1), .un, .dat (chD c)], true, fun s H C cl fp D => wgc_name 5 rfl nd, fun s H C cl fp D => rfl, ?_⟩
        refine iteT ⟨chB true c, ?_, ?_, fun s H C cl fp D => ?_⟩
        · rw [List.length_map, List.length_take]; omega
        · show _ = List.map (chB true) (List.take (i + 1) cs)
          rw [eT, List.map_append]; rfl
        · walk_at "w"
          walk_at "w"
          walk_at "w"
          exact cd_lstTF rfl
      have he : acc = (cs.take (cs.map chD).length).map (chB true) := he
      rw [List.length_map, List.take_length] at he
      subst he
      refine od_neV (L := L) (d := .list (cs.map (chB true))) (d2 := .list (cs.map (chB true))) (by have := hr.un; show A0.units + 3 + 64 < _; have h3 : A0.units + 3 + 16 * 17 + 200 < cLine := this; omega) (fun _ _ h => h.1) rfl (shaped_chLs hso) (shaped_chLs hso) ?_
      rw [eqv_chLs]
      walk_at "w"
      refine iteF (wss_nil (wss_conv (Cv.cong Cv.hold Cv.refl) (wss_cons ?_)))
      refine ws_forR (passes_of rfl) rfl T.free ?_
      repeat walk_at "w"
      refine cd_lenH (L := L) (fun _ _ h => h.1) ok.top hus ?_
      refine ⟨_, rfl, by omega, by omega, fun k ρ' J' => ∃ L', NestOk L' D us 3 ∧ J' = (Res.hold L').star (doR K x (stepH x (.all n cs)).2) ∧ ∃ r, ρ' = [.raw (.ref x.a), dT [.str "all", .str n, .list (cs.map chD)], .raw (.ref D), .dat (outD (stepH x (.all n cs)).1), r, .un], ⟨L, ok, rfl, _, rfl⟩, ?_, ?_⟩
      · rintro k ρ' J' hk ⟨L', ok', rfl, r, rfl⟩
        have hk' : k < cs.length := by simpa using hk
        obtain ⟨c, hc⟩ : ∃ c, cs[k]? = some c := ⟨cs[k], List.getElem?_eq_getElem hk'⟩
        obtain ⟨q, xs, e1, e2, e3, e4⟩ := ok'.at_ k (by omega)
        refine wg_name 4 ?_ nd
        refine wss_cons (ws_setixH (L := L') (F := doR K x (stepH x (.all n cs)).2) (fun q h _ o => .inr (h.elim (fun z => z.elim) id)) ok'.lists Cv.refl ?_)
        repeat walk_at "w"
        refine id_lst (ds := cs.map chD) (d := chD c) rfl (atI_nat (by rw [List.getElem?_map, hc]; rfl)) ?_
        repeat walk_at "w"
        refine id_hold (L := L') (fun _ _ h => h.1) ok'.top (atI_nat e1) ?_
        refine ⟨q, xs, rfl, e3, ?_⟩
        walk_at "w"
        refine ⟨0, 0, rfl, by rw [e4]; rfl, fun v => wss_nil ⟨_, ok'.set e3 e2 v, rfl, _, rfl⟩⟩
      · rintro ρ' J' ⟨L', ok', rfl, r, rfl⟩
        refine wss_cons (ws_appendH (L := L') (F := doR K x (stepH x (.all n cs)).2) (fun q h _ o => .inr (h.elim (fun z => z.elim) id)) Cv.refl ?_)
        walk_at "w"
        refine ⟨D, us, rfl, ok'.top, by omega, ?_⟩
        repeat walk_at "w"
        refine wss_cons (ws_ret ?_)
        walk_at "w"
        exact ⟨rfl, rfl⟩
    refine wj_told (T := tabT K) (Jd := ((hsR K x x.m).star (Res.tmp K L (.ref D) (.list (cs.map (chB true)))))) (F := Res.emp) (k := 15) (hsM x) (B).told (B).tb rfl (List.mem_singleton.mpr rfl) (fun p hp _ => by rw [List.mem_singleton.mp hp] <;> rfl) hr (by decide) (Cv.comm.trans (Cv.assoc.trans Cv.emp)) fr_emp (fr_star fr_hs fr_tmp) (fun z ps => Or.inl ⟨ps, rfl⟩) ?_ ?_ (L := LamX.lamS_by (sc := dDo.scope) (by decide +kernel))
    · exact fun z o q => ⟨.inl q, fun _ => .inr q⟩
    · intro W1 Ro outer s H E f c' hr'
      refine wj_meth (c_Al T) hr' (by decide) lTakes ?_
      walk_at "w"
      refine ⟨rcv_J (fun _ _ h => h.2.1.1.1) rfl, ?_⟩
      repeat walk_at "w"
      refine id_tup (ds := [.str "all", .str n, .list (cs.map chD)]) rfl ?_
      repeat walk_at "w"
      refine icallZ (S := sAl K) ⟨x, n, true, cs⟩ (Res.tabs (tabT K)) ok.lists (.same (.same (.lent .nil))) rfl ⟨hx, hdk⟩ cv_swap frT_tabs (fun z o q => ?_) (fun r J' hh => ?_) (fun e J' hh => ?_)
      · exact ⟨q, fun _ => q⟩
      · obtain ⟨v, e1, rfl, rfl⟩ := hh
        have t := tail2
        rw [e1] at t
        exact ⟨ok_noL e1, hs_thin, v, rfl, _, cvT, rfl, t⟩
      · obtain ⟨rf, e1, rfl, rfl⟩ := hh
        have t := tail2
        rw [e1] at t
        exact ⟨ref_noL rf, hs_thin, Exists.intro rf.nm ⟨ref_mem rf, rfl, _, cvT, rfl, t⟩⟩
theorem c_Do (T : Tx P K mg) (B : Bx P w K mg base) : Cal P w K mg base 18 "_law_do" ((sDo K).sp K) :=
  cal_ofC T (b_Do T B) rfl T.glo (by unfold fn; repeat (first | with_reducible exact List.Mem.head _ | apply List.Mem.tail)) rfl rfl fs_Do (fun _ => rfl) (fun y => rfl) (by decide) (fun _ _ _ _ _ _ us h => match us, h with | [_, _], _ => rfl)
end
end KK

namespace KK
open PySem PySem.Spec PyProof.Rows L2 DL
local macro_rules | `(tactic| walk_at "v") => `(tactic| first
  | refine we_varI ?_
  | refine we_varOI ?_
  | ((with_reducible refine (?_ : We _ (.Name "int" _) _ _ _)); refine we_ty (Tx.f_int (by assumption)) boot_int' ?_)
  | ((with_reducible refine (?_ : We _ (.Name "bool" _) _ _ _)); refine we_ty (Tx.f_bool (by assumption)) boot_bool' ?_)
  | ((with_reducible refine (?_ : We _ (.Name "str" _) _ _ _)); refine we_ty (Tx.f_str (by assumption)) boot_str' ?_)
  | ((with_reducible refine (?_ : We _ (.Name "tuple" _) _ _ _)); refine we_ty (Tx.f_tuple (by assumption)) boot_tuple' ?_)
  | ((with_reducible refine (?_ : We _ (.Name "list" _) _ _ _)); refine we_ty (Tx.f_list (by assumption)) boot_list' ?_)
  | refine we_glob (Tx.int (by assumption)) (fun _ => .int _) ?_)
local macro_rules | `(tactic| walk_at "b") => `(tactic| first
  | ((with_reducible refine (?_ : We _ (.Call (.Name "len" _) _ _ _) _ _ _)); refine we_callB (Tx.f_len (by assumption)) boot_len ?_; refine wa_cons ?_)
  | ((with_reducible refine (?_ : We _ (.Call (.Name "isinstance" _) _ _ _) _ _ _)); refine we_callB (Tx.f_isinstance (by assumption)) DL.boot_isinstance ?_; refine wa_cons ?_)
  | ((with_reducible refine (?_ : We _ (.Call (.Name "max" _) _ _ _) _ _ _)); refine we_callB (Tx.f_max (by assumption)) boot_max' ?_; refine wa_cons ?_)
  | ((with_reducible refine (?_ : We _ (.Call (.Name "min" _) _ _ _) _ _ _)); refine we_callB (Tx.f_min (by assumption)) boot_min' ?_; refine wa_cons ?_)
  | ((with_reducible refine (?_ : We _ (.Call (.Name "int" _) _ _ _) _ _ _)); refine we_callTy (Tx.f_int (by assumption)) boot_int' ?_; refine wa_cons ?_)
  | ((with_reducible refine (?_ : We _ (.Call (.Name "tuple" _) _ _ _) _ _ _)); refine we_callTy (Tx.f_tuple (by assumption)) boot_tuple' ?_; refine wa_cons ?_)
  | ((with_reducible refine (?_ : We _ (.Call (.Name "list" _) _ _ _) _ _ _)); refine we_callTy (Tx.f_list (by assumption)) boot_list' ?_; refine wa_cons ?_))
local macro_rules | `(tactic| walk_at "k") => `(tactic| first | refine we_int ?_ | refine we_str ?_ | refine we_bl ?_ | refine we_non ?_)
local macro_rules | `(tactic| walk_at "o+") => `(tactic| first | refine od_add ?_)
local macro_rules | `(tactic| walk_at "oe") => `(tactic| first | refine od_eqI ?_ | refine od_eqS ?_)
local macro_rules | `(tactic| walk_at "on") => `(tactic| first | refine od_neI ?_ | refine od_neS ?_)
local macro_rules | `(tactic| walk_at "c") => `(tactic| first | refine cd_int ?_ | refine cd_tup rfl ?_ | refine cd_tupT ?_ | refine cd_lst rfl ?_ | refine cd_lstT ?_)
local macro_rules | `(tactic| walk_at "w") => `(tactic| first
  | ((with_reducible refine (?_ : We _ (.Name _ _) _ _ _)); walk_at "v")
  | ((with_reducible refine (?_ : We _ (.Constant _ _ _) _ _ _)); walk_at "k")
  | ((with_reducible refine (?_ : We _ (.Subscript _ (.Slice _ _ _ _) _) _ _ _)); refine we_slice ?_)
  | ((with_reducible refine (?_ : We _ (.Subscript _ _ _) _ _ _)); refine we_ix (fun _ _ => rfl) ?_)
  | ((with_reducible refine (?_ : We _ (.Call _ _ _ _) _ _ _)); walk_at "b")
  | ((with_reducible refine (?_ : We _ (.BinOp _ _ _ _) _ _ _)); refine we_bin ?_)
  | ((with_reducible refine (?_ : We _ (.Compare _ _ _ _) _ _ _)); refine we_cmp rfl ?_)
  | ((with_reducible refine (?_ : We _ (.UnaryOp .USub _ _) _ _ _)); refine we_un ?_)
  | ((with_reducible refine (?_ : We _ (.Tuple _ _ _) _ _ _)); refine we_tup ?_)
  | ((with_reducible refine (?_ : We _ (.List _ _) _ _ _)); refine we_lst ?_)
  | ((with_reducible refine (?_ : Wa _ [] _ _ _)); refine wa_nil ?_)
  | ((with_reducible refine (?_ : Wa _ (_ :: _) _ _ _)); refine wa_cons ?_)
  | ((with_reducible refine (?_ : Wt _ (.Compare _ _ _ _) _ _ _)); refine wt_cmp rfl ?_)
  | ((with_reducible refine (?_ : Wt _ (.UnaryOp .Not _ _) _ _ _)); refine wt_not ?_)
  | ((with_reducible refine (?_ : Wt _ (.BoolOp _ _ _) _ _ _)); refine wt_bool ?_)
  | ((with_reducible refine (?_ : Ww _ (.BoolOp .And (_ :: _ :: _) _) _ _ _)); refine ww_and ?_)
  | ((with_reducible refine (?_ : Ww _ (.BoolOp .Or (_ :: _ :: _) _) _ _ _)); refine ww_or ?_)
  | ((with_reducible refine (?_ : Ww _ (.BoolOp .And _ _) _ _ _)); refine ww_and1 ?_)
  | ((with_reducible refine (?_ : Ww _ (.BoolOp .Or _ _) _ _ _)); refine ww_or1 ?_)
  | ((with_reducible refine (?_ : Wp _ none _ _ _)); refine wp_none ?_)
  | ((with_reducible refine (?_ : Wp _ (some _) _ _ _)); refine wp_some ?_)
  | ((with_reducible refine (?_ : Od _ (binaryOp .Add) _ _ _ _ _)); refine od_add ?_)
  | ((with_reducible refine (?_ : Od _ (binaryOp .Sub) _ _ _ _ _)); refine od_sub ?_)
  | ((with_reducible refine (?_ : Od _ (binaryOp .Mult) _ _ _ _ _)); refine od_mul ?_)
  | ((with_reducible refine (?_ : Od _ (binaryOp .FloorDiv) _ _ _ _ _)); refine od_fdiv ?_)
  | ((with_reducible refine (?_ : Od _ (binaryOp .Mod) _ _ _ _ _)); refine od_mod ?_)
  | ((with_reducible refine (?_ : Od _ (compareOp .Eq) _ _ _ _ _)); walk_at "oe")
  | ((with_reducible refine (?_ : Od _ (compareOp .NotEq) _ _ _ _ _)); walk_at "on")
  | ((with_reducible refine (?_ : Od _ (compareOp .Lt) _ _ _ _ _)); refine od_lt ?_)
  | ((with_reducible refine (?_ : Od _ (compareOp .LtE) _ _ _ _ _)); refine od_le ?_)
  | ((with_reducible refine (?_ : Od _ (compareOp .Gt) _ _ _ _ _)); refine od_gt ?_)
  | ((with_reducible refine (?_ : Od _ (compareOp .GtE) _ _ _ _ _)); refine od_ge ?_)
  | ((with_reducible refine (?_ : Od _ (compareOp .Is) _ _ _ _ _)); refine od_isN ?_)
  | ((with_reducible refine (?_ : Od _ (compareOp .IsNot) _ _ _ _ _)); refine od_isnotN ?_)
  | ((with_reducible refine (?_ : Ud _ _ _ _ _ _)); refine ud_neg ?_)
  | ((with_reducible refine (?_ : Cd _ (.type _) _ _ _ _)); walk_at "c")
  | ((with_reducible refine (?_ : Id _ _ _ (.dat (.tuple _)) _ _)); refine id_tup (by rfl) ?_)
  | ((with_reducible refine (?_ : ∃ k, Sl.dat (PyData.bool _) = Sl.dat (PyData.bool k) ∧ _)); refine ⟨_, rfl, ?_⟩)
  | ((with_reducible refine (?_ : ∃ i, Sl.dat (PyData.int _) = Sl.dat (PyData.int i) ∧ _)); refine ⟨_, rfl, ?_⟩)
  | ((with_reducible refine (?_ : ∃ ds, datsOf _ = some ds ∧ _ ∧ _)); refine ⟨_, rfl, Nat.le_of_ble_eq_true rfl, ?_⟩)
  | ((with_reducible refine (?_ : Id _ _ _ (.dat _) _ _)); refine id_tup (by rfl) ?_))
section
variable {P : Program} {w : World} {K : PySem.W.Frag} {mg : Str → Option Value} {base : Heap}
/-! ### the script's numbers -/
def nOk (ns : List Int) : Prop := ∀ x ∈ ns, 0 ≤ x ∧ x < 1000
theorem num_at {ns : List Int} (h : nOk ns) {i : Int} (h0 : 0 ≤ i) (h1 : i < ns.length) : ∃ v, atI (ns.map PyData.int) i = some (.int v) ∧ 0 ≤ v ∧ v < 1000 := by
  obtain ⟨k, rfl⟩ := Int.eq_ofNat_of_zero_le h0
  have hk : k < ns.length := by omega
  exact ⟨ns[k], atI_nat (by rw [List.getElem?_map, List.getElem?_eq_getElem hk]; rfl), h _ (List.getElem_mem hk)⟩
theorem str_at {zs : List Str} {i : Int} (h0 : 0 ≤ i) (h1 : i < zs.length) : ∃ z ∈ zs, atI (zs.map PyData.str) i = some (.str z) := by
  obtain ⟨k, rfl⟩ := Int.eq_ofNat_of_zero_le h0
  have hk : k < zs.length := by omega
  exact ⟨zs[k], List.getElem_mem hk, atI_nat (by rw [List.getElem?_map, List.getElem?_eq_getElem hk]; rfl)⟩
abbrev nNm : List Str := ["script", "many", "found", "seed", "k", "cell", "step"]
theorem fs_Nm : FnScope nNm ["script", "many"] dNumbers.scope := ⟨rfl, rfl, rfl, by decide +kernel, rfl, by decide +kernel, by decide +kernel⟩
def sNm : Spec (List Int × Nat) where
  args := fun a => [dL (a.1.map .int), dI a.2]
  pre := fun a => a.1.length ≤ 1000 ∧ a.2 ≤ 10000
  rt := fun a r J => ∃ ns : List Int, r = dL (ns.map .int) ∧ ns.length = a.2 ∧ nOk ns
theorem nOk_snoc {ns : List Int} {x : Int} (h : nOk ns) (hx : 0 ≤ x ∧ x < 1000) : nOk (ns ++ [x]) := fun y hy => by
  rcases List.mem_append.mp hy with z | z
  · exact h y z
  · rw [List.mem_singleton.mp z]; exact hx
theorem mod_in (x : Int) {m : Int} (h : 0 < m) : 0 ≤ x % m ∧ x % m < m := ⟨Int.emod_nonneg _ (by omega), Int.emod_lt_of_pos _ h⟩
theorem b_Nm (T : Tx P K mg) : Body P w K mg base dNumbers nNm sNm 0 := by
  rintro ⟨sc, many⟩ cdv A0 outer s W0 E hr ⟨hsc, hmany⟩
  have hsc : sc.length ≤ 1000 := hsc
  have hmany : many ≤ 10000 := hmany
  have nd := fs_Nm.nd
  refine wss_cons (ws_setI nd ?_)
  repeat walk_at "w"
  refine ⟨rfl, wss_cons (ws_setI nd ?_)⟩
  repeat walk_at "w"
  refine ⟨rfl, wss_cons ?_⟩
  refine ws_forR (passes_of rfl) rfl T.free ?_
  repeat walk_at "w"
  refine cd_len (d := .list (sc.map .int)) (n := sc.length) rfl (congrArg some (List.length_map _)) (by omega) ?_
  repeat walk_at "w"
  refine cd_min2 rfl ?_
  refine ⟨_, rfl, by split <;> omega, by split <;> omega, fun k ρ' J' => J' = .emp ∧ ∃ (ns : List Int) (seed : Int) (r4 r5 r6 : Sl), ns.length ≤ many ∧ nOk ns ∧ 0 ≤ seed ∧ seed < 2147483647 ∧ ρ' = [dL (sc.map .int), dI many, .own (ns.map .int), dI seed, r4, r5, r6],
    ⟨rfl, [], 7, _, _, _, Nat.zero_le _, (fun x hx => absurd hx List.not_mem_nil), by decide, by decide, rfl⟩, ?_, ?_⟩
  · rintro k ρ' J' hk ⟨rfl, ns, seed, r4, r5, r6, hn, hok, hs0, hs1, rfl⟩
    have hk' : k < sc.length := by
      have : (k : Int) < (if (63 : Int) < sc.length then (63 : Int) else (sc.length : Int)) := by omega
      split at this <;> omega
    obtain ⟨c, hc⟩ : ∃ c, sc[k]? = some c := ⟨sc[k], List.getElem?_eq_getElem hk'⟩
    refine wg_name 4 ?_ nd
    refine wss_cons (ws_setI nd ?_)
    repeat walk_at "w"
    refine id_lst (ds := sc.map .int) (d := .int c) rfl (atI_nat (by rw [List.getElem?_map, hc]; rfl)) ?_
    repeat walk_at "w"
    refine ⟨rfl, wss_cons (ws_setI nd ?_)⟩
    repeat walk_at "w"
    refine ⟨rfl, ?_⟩
    have hseed := mod_in (seed * 48271 + c * 69621 + k) (m := 2147483647) (by decide)
    generalize hse : (seed * 48271 + c * 69621 + k) % 2147483647 = seed' at hseed
    have rest : ∀ (cell : Int) (bk : List Sl → Res → Prop), Wss (actOf P w K mg base nNm dNumbers.qual dNumbers.scope (He.fAd K dNumbers.at_) cdv A0 outer s (sNm.md (sc, many)) W0 E (sNm.ex (sc, many))) (match dNumbers.body.getD 2 (.Pass ⟨0, 0, 0, 0⟩) with | .For _ _ b _ _ => b.drop 3 | _ => []) [dL (sc.map .int), dI many, .own (ns.map .int), dI seed', dI k, dI cell, r6] .emp
        (fun ρ' J' => J' = .emp ∧ ∃ (ns : List Int) (seed : Int) (r4 r5 r6 : Sl), ns.length ≤ many ∧ nOk ns ∧ 0 ≤ seed ∧ seed < 2147483647 ∧ ρ' = [dL (sc.map .int), dI many, .own (ns.map .int), dI seed, r4, r5, r6]) (sNm.rt (sc, many)) bk
        (fun ρ' J' => J' = .emp ∧ ∃ (ns : List Int) (seed : Int) (r4 r5 r6 : Sl), ns.length ≤ many ∧ nOk ns ∧ 0 ≤ seed ∧ seed < 2147483647 ∧ ρ' = [dL (sc.map .int), dI many, .own (ns.map .int), dI seed, r4, r5, r6]) := fun cell bk => by
      refine wss_cons (ws_if ?_)
      repeat walk_at "w"
      refine od_pow ?_
      repeat walk_at "w"
      refine ite_dec (fun _ => ?_) (fun _ => ?_)
      · refine wss_cons ?_
        refine ws_forR (passes_of rfl) rfl T.free ?_
        walk_at "w"
        refine ⟨_, rfl, by decide, by decide, fun _ ρ' J' => J' = .emp ∧ ∃ (ns : List Int) (cell : Int) (r6 : Sl), ns.length ≤ many ∧ nOk ns ∧ ρ' = [dL (sc.map .int), dI many, .own (ns.map .int), dI seed', dI k, dI cell, r6], ⟨rfl, ns, _, _, hn, hok, rfl⟩, ?_, ?_⟩
        · rintro j ρ' J' hj ⟨rfl, ns, cell, r6, hn, hok, rfl⟩
          refine wg_name 6 ?_ nd
          refine wss_cons (ws_if ?_)
          repeat walk_at "w"
          refine ite_dec (fun _ => ?_) (fun _ => ?_)
          · repeat walk_at "w"
            refine cd_len (d := .list (ns.map .int)) (n := ns.length) rfl (congrArg some (List.length_map _)) (by omega) ?_
            repeat walk_at "w"
            refine ite_dec (fun hlt => ?_) (fun _ => ?_)
            · refine wss_cons (ws_append 2 ?_)
              repeat walk_at "w"
              refine ⟨_, rfl, by rw [List.length_map]; omega, wss_cons (ws_setI nd ?_)⟩
              repeat walk_at "w"
              refine ⟨rfl, wss_nil (wss_nil ⟨rfl, ns ++ [cell % 1000], cell / 1000, dI j, ?_, nOk_snoc hok (mod_in cell (by decide)), ?_⟩)⟩
              · rw [List.length_append]
                show ns.length + 1 ≤ many
                omega
              · rw [List.map_append]; rfl
            · exact wss_nil (wss_nil ⟨rfl, ns, cell, _, hn, hok, rfl⟩)
          · exact wss_nil (wss_nil ⟨rfl, ns, cell, _, hn, hok, rfl⟩)
        · rintro ρ' J' ⟨rfl, ns, cell, r6, hn, hok, rfl⟩
          exact wss_nil (wss_nil ⟨rfl, ns, seed', _, _, _, hn, hok, hseed.1, hseed.2, rfl⟩)
      · refine wss_cons (ws_if ?_)
        repeat walk_at "w"
        refine cd_len (d := .list (ns.map .int)) (n := ns.length) rfl (congrArg some (List.length_map _)) (by omega) ?_
        repeat walk_at "w"
        refine ite_dec (fun hlt => ?_) (fun _ => ?_)
        · refine wss_cons (ws_append 2 ?_)
          repeat walk_at "w"
          refine ⟨_, rfl, by rw [List.length_map]; omega, wss_nil (wss_nil (wss_nil ⟨rfl, ns ++ [((cell * 48271 + k * 69621) % 2147483647 * 16807) % 65537 % 1000], seed', dI k, dI cell, r6, ?_, nOk_snoc hok (mod_in _ (by decide)), hseed.1, hseed.2, ?_⟩))⟩
          · rw [List.length_append]
            show ns.length + 1 ≤ many
            omega
          · rw [List.map_append]; rfl
        · exact wss_nil (wss_nil (wss_nil ⟨rfl, ns, seed', _, _, _, hn, hok, hseed.1, hseed.2, rfl⟩))
    refine wss_cons (ws_if ?_)
    repeat walk_at "w"
    refine ite_dec (fun _ => ?_) (fun _ => ?_)
    · refine wss_cons (ws_setI nd ?_)
      repeat walk_at "w"
      exact ⟨rfl, wss_nil (rest _ _)⟩
    · exact wss_nil (rest _ _)
  rintro ρ' J' ⟨rfl, ns, seed, r4, r5, r6, hn, hok, hs0, hs1, rfl⟩
  refine wss_cons ?_
  refine ws_forR (passes_of rfl) rfl T.free ?_
  walk_at "w"
  refine ⟨_, rfl, by omega, by omega, fun k ρ' J' => J' = .emp ∧ ∃ (ns : List Int) (seed : Int) (r4 : Sl), k ≤ ns.length ∧ ns.length ≤ many ∧ nOk ns ∧ 0 ≤ seed ∧ seed < 2147483647 ∧ ρ' = [dL (sc.map .int), dI many, .own (ns.map .int), dI seed, r4, r5, r6], ⟨rfl, ns, seed, _, Nat.zero_le _, hn, hok, hs0, hs1, rfl⟩, ?_, ?_⟩
  · rintro k ρ' J' hk ⟨rfl, ns, seed, r4, hkn, hn, hok, hs0, hs1, rfl⟩
    have hk' : k < many := by simpa using hk
    refine wg_name 4 ?_ nd
    refine wss_cons (ws_if ?_)
    repeat walk_at "w"
    refine cd_len (d := .list (ns.map .int)) (n := ns.length) rfl (congrArg some (List.length_map _)) (by omega) ?_
    repeat walk_at "w"
    refine ite_dec (fun hlt => ?_) (fun hlt => ?_)
    · refine wss_cons (ws_setI nd ?_)
      repeat walk_at "w"
      refine ⟨rfl, wss_cons (ws_append 2 ?_)⟩
      repeat walk_at "w"
      have hseed := mod_in (seed * 16807 + 12345) (m := 2147483647) (by decide)
      refine ⟨_, rfl, by rw [List.length_map]; omega, wss_nil (wss_nil ⟨rfl, ns ++ [((seed * 16807 + 12345) % 2147483647 / 1000) % 1000], (seed * 16807 + 12345) % 2147483647, dI k, ?_, ?_, nOk_snoc hok (mod_in _ (by decide)), hseed.1, hseed.2, ?_⟩)⟩
      · rw [List.length_append]
        show k + 1 ≤ ns.length + 1
        omega
      · rw [List.length_append]
        show ns.length + 1 ≤ many
        omega
      · rw [List.map_append]; rfl
    · exact wss_nil (wss_nil ⟨rfl, ns, seed, _, by omega, hn, hok, hs0, hs1, rfl⟩)
  · rintro ρ' J' ⟨rfl, ns, seed, r4, hkn, hn, hok, hs0, hs1, rfl⟩
    refine wss_cons (ws_ret ?_)
    walk_at "w"
    have hkn : ((many : Nat) : Int).toNat ≤ ns.length := hkn
    exact ⟨ns, rfl, by show ns.length = many; omega, hok⟩
theorem c_Nm (T : Tx P K mg) : Cal P w K mg base 1 "_law_numbers" (sNm.sp K) :=
  cal_of T (b_Nm T) rfl T.glo (by unfold fn; repeat (first | with_reducible exact List.Mem.head _ | apply List.Mem.tail)) rfl rfl fs_Nm (fun _ => rfl) (fun y => rfl) (by decide) (fun _ _ _ _ _ _ us h => match us, h with | [_, _], _ => rfl)
end
end KK

namespace KK
open PySem PySem.Spec PyProof.Rows L2 DL
local macro_rules | `(tactic| walk_at "v") => `(tactic| first
  | refine we_varI ?_
  | refine we_varOI ?_
  | ((with_reducible refine (?_ : We _ (.Name "int" _) _ _ _)); refine we_ty (Tx.f_int (by assumption)) boot_int' ?_)
  | ((with_reducible refine (?_ : We _ (.Name "bool" _) _ _ _)); refine we_ty (Tx.f_bool (by assumption)) boot_bool' ?_)
  | ((with_reducible refine (?_ : We _ (.Name "str" _) _ _ _)); refine we_ty (Tx.f_str (by assumption)) boot_str' ?_)
  | ((with_reducible refine (?_ : We _ (.Name "tuple" _) _ _ _)); refine we_ty (Tx.f_tuple (by assumption)) boot_tuple' ?_)
  | ((with_reducible refine (?_ : We _ (.Name "list" _) _ _ _)); refine we_ty (Tx.f_list (by assumption)) boot_list' ?_)
  | refine we_glob (Tx.int (by assumption)) (fun _ => .int _) ?_)
local macro_rules | `(tactic| walk_at "b") => `(tactic| first
  | ((with_reducible refine (?_ : We _ (.Call (.Name "len" _) _ _ _) _ _ _)); refine we_callB (Tx.f_len (by assumption)) boot_len ?_; refine wa_cons ?_)
  | ((with_reducible refine (?_ : We _ (.Call (.Name "isinstance" _) _ _ _) _ _ _)); refine we_callB (Tx.f_isinstance (by assumption)) DL.boot_isinstance ?_; refine wa_cons ?_)
  | ((with_reducible refine (?_ : We _ (.Call (.Name "max" _) _ _ _) _ _ _)); refine we_callB (Tx.f_max (by assumption)) boot_max' ?_; refine wa_cons ?_)
  | ((with_reducible refine (?_ : We _ (.Call (.Name "min" _) _ _ _) _ _ _)); refine we_callB (Tx.f_min (by assumption)) boot_min' ?_; refine wa_cons ?_)
  | ((with_reducible refine (?_ : We _ (.Call (.Name "int" _) _ _ _) _ _ _)); refine we_callTy (Tx.f_int (by assumption)) boot_int' ?_; refine wa_cons ?_)
  | ((with_reducible refine (?_ : We _ (.Call (.Name "tuple" _) _ _ _) _ _ _)); refine we_callTy (Tx.f_tuple (by assumption)) boot_tuple' ?_; refine wa_cons ?_)
  | ((with_reducible refine (?_ : We _ (.Call (.Name "list" _) _ _ _) _ _ _)); refine we_callTy (Tx.f_list (by assumption)) boot_list' ?_; refine wa_cons ?_))
local macro_rules | `(tactic| walk_at "k") => `(tactic| first | refine we_int ?_ | refine we_str ?_ | refine we_bl ?_ | refine we_non ?_)
local macro_rules | `(tactic| walk_at "o+") => `(tactic| first | refine od_add ?_)
local macro_rules | `(tactic| walk_at "oe") => `(tactic| first | refine od_eqI ?_ | refine od_eqS ?_)
local macro_rules | `(tactic| walk_at "on") => `(tactic| first | refine od_neI ?_ | refine od_neS ?_)
local macro_rules | `(tactic| walk_at "c") => `(tactic| first | refine cd_int ?_ | refine cd_tup rfl ?_ | refine cd_tupT ?_ | refine cd_lst rfl ?_ | refine cd_lstT ?_)
local macro_rules | `(tactic| walk_at "w") => `(tactic| first
  | ((with_reducible refine (?_ : We _ (.Name _ _) _ _ _)); walk_at "v")
  | ((with_reducible refine (?_ : We _ (.Constant _ _ _) _ _ _)); walk_at "k")
  | ((with_reducible refine (?_ : We _ (.Subscript _ (.Slice _ _ _ _) _) _ _ _)); refine we_slice ?_)
  | ((with_reducible refine (?_ : We _ (.Subscript _ _ _) _ _ _)); refine we_ix (fun _ _ => rfl) ?_)
  | ((with_reducible refine (?_ : We _ (.Call _ _ _ _) _ _ _)); walk_at "b")
  | ((with_reducible refine (?_ : We _ (.BinOp _ _ _ _) _ _ _)); refine we_bin ?_)
  | ((with_reducible refine (?_ : We _ (.Compare _ _ _ _) _ _ _)); refine we_cmp rfl ?_)
  | ((with_reducible refine (?_ : We _ (.UnaryOp .USub _ _) _ _ _)); refine we_un ?_)
  | ((with_reducible refine (?_ : We _ (.Tuple _ _ _) _ _ _)); refine we_tup ?_)
  | ((with_reducible refine (?_ : We _ (.List _ _) _ _ _)); refine we_lst ?_)
  | ((with_reducible refine (?_ : Wa _ [] _ _ _)); refine wa_nil ?_)
  | ((with_reducible refine (?_ : Wa _ (_ :: _) _ _ _)); refine wa_cons ?_)
  | ((with_reducible refine (?_ : Wt _ (.Compare _ _ _ _) _ _ _)); refine wt_cmp rfl ?_)
  | ((with_reducible refine (?_ : Wt _ (.UnaryOp .Not _ _) _ _ _)); refine wt_not ?_)
  | ((with_reducible refine (?_ : Wt _ (.BoolOp _ _ _) _ _ _)); refine wt_bool ?_)
  | ((with_reducible refine (?_ : Ww _ (.BoolOp .And (_ :: _ :: _) _) _ _ _)); refine ww_and ?_)
  | ((with_reducible refine (?_ : Ww _ (.BoolOp .Or (_ :: _ :: _) _) _ _ _)); refine ww_or ?_)
  | ((with_reducible refine (?_ : Ww _ (.BoolOp .And _ _) _ _ _)); refine ww_and1 ?_)
  | ((with_reducible refine (?_ : Ww _ (.BoolOp .Or _ _) _ _ _)); refine ww_or1 ?_)
  | ((with_reducible refine (?_ : Wp _ none _ _ _)); refine wp_none ?_)
  | ((with_reducible refine (?_ : Wp _ (some _) _ _ _)); refine wp_some ?_)
  | ((with_reducible refine (?_ : Od _ (binaryOp .Add) _ _ _ _ _)); refine od_add ?_)
  | ((with_reducible refine (?_ : Od _ (binaryOp .Sub) _ _ _ _ _)); refine od_sub ?_)
  | ((with_reducible refine (?_ : Od _ (binaryOp .Mult) _ _ _ _ _)); refine od_mul ?_)
  | ((with_reducible refine (?_ : Od _ (binaryOp .FloorDiv) _ _ _ _ _)); refine od_fdiv ?_)
  | ((with_reducible refine (?_ : Od _ (binaryOp .Mod) _ _ _ _ _)); refine od_mod ?_)
  | ((with_reducible refine (?_ : Od _ (compareOp .Eq) _ _ _ _ _)); walk_at "oe")
  | ((with_reducible refine (?_ : Od _ (compareOp .NotEq) _ _ _ _ _)); walk_at "on")
  | ((with_reducible refine (?_ : Od _ (compareOp .Lt) _ _ _ _ _)); refine od_lt ?_)
  | ((with_reducible refine (?_ : Od _ (compareOp .LtE) _ _ _ _ _)); refine od_le ?_)
  | ((with_reducible refine (?_ : Od _ (compareOp .Gt) _ _ _ _ _)); refine od_gt ?_)
  | ((with_reducible refine (?_ : Od _ (compareOp .GtE) _ _ _ _ _)); refine od_ge ?_)
  | ((with_reducible refine (?_ : Od _ (compareOp .Is) _ _ _ _ _)); refine od_isN ?_)
  | ((with_reducible refine (?_ : Od _ (compareOp .IsNot) _ _ _ _ _)); refine od_isnotN ?_)
  | ((with_reducible refine (?_ : Ud _ _ _ _ _ _)); refine ud_neg ?_)
  | ((with_reducible refine (?_ : Cd _ (.type _) _ _ _ _)); walk_at "c")
  | ((with_reducible refine (?_ : Id _ _ _ (.dat (.tuple _)) _ _)); refine id_tup (by rfl) ?_)
  | ((with_reducible refine (?_ : ∃ k, Sl.dat (PyData.bool _) = Sl.dat (PyData.bool k) ∧ _)); refine ⟨_, rfl, ?_⟩)
  | ((with_reducible refine (?_ : ∃ i, Sl.dat (PyData.int _) = Sl.dat (PyData.int i) ∧ _)); refine ⟨_, rfl, ?_⟩)
  | ((with_reducible refine (?_ : ∃ ds, datsOf _ = some ds ∧ _ ∧ _)); refine ⟨_, rfl, Nat.le_of_ble_eq_true rfl, ?_⟩)
  | ((with_reducible refine (?_ : Id _ _ _ (.dat _) _ _)); refine id_tup (by rfl) ?_))
section
variable {P : Program} {w : World} {K : PySem.W.Frag} {mg : Str → Option Value} {base : Heap}
/-! ### drawn choices, names, deeds -/
abbrev nCh : List Str := ["number", "many", "left", "right"]
theorem fs_Ch : FnScope nCh ["number", "many"] dChoice.scope := ⟨rfl, rfl, rfl, by decide +kernel, rfl, by decide +kernel, by decide +kernel⟩
def rightP (number many : Int) : Int := (number % many + 1 + number / many % (many - 1)) % many
theorem right_in {number many : Int} (h2 : 2 ≤ many) : 0 ≤ rightP number many ∧ rightP number many < many ∧ number % many ≠ rightP number many := by
  unfold rightP
  obtain ⟨a1, a2⟩ := mod_in number (m := many) (by omega)
  obtain ⟨b1, b2⟩ := mod_in (number / many) (m := many - 1) (by omega)
  generalize number % many = a at *
  generalize number / many % (many - 1) = b at *
  obtain ⟨c1, c2⟩ := mod_in (a + 1 + b) (m := many) (by omega)
  refine ⟨c1, c2, fun e => ?_⟩
  have d := Int.emod_add_mul_ediv (a + 1 + b) many
  generalize (a + 1 + b) / many = q at d
  rw [← e] at d
  have hq : many * q = b + 1 := by omega
  rcases Int.lt_or_le 0 q with h | h
  · have := Int.mul_le_mul_of_nonneg_left (show (1 : Int) ≤ q by omega) (show 0 ≤ many by omega)
    omega
  · have := Int.mul_le_mul_of_nonneg_left h (show 0 ≤ many by omega)
    omega
theorem good_of {l r many : Int} {w : Str} (hw : w ∈ words) (h1 : l ≠ r) (h2 : 0 ≤ l) (h3 : 0 ≤ r) (h4 : l < many) (h5 : r < many) : good ⟨l, w, r⟩ many = true := by
  unfold good
  rw [decide_eq_true hw, decide_eq_true h1, decide_eq_true (Int.le_min.mpr ⟨h2, h3⟩), decide_eq_true (Int.max_lt.mpr ⟨h4, h5⟩)]
  rfl
def wordP (i : Int) : Str := words.getD i.toNat ""
theorem wordP_at {i : Int} (h0 : 0 ≤ i) (h1 : i < 3) : atI (words.map PyData.str) i = some (.str (wordP i)) ∧ wordP i ∈ words := by
  obtain ⟨k, rfl⟩ := Int.eq_ofNat_of_zero_le h0
  match k, h1 with
  | 0, _ => exact ⟨rfl, by decide +kernel⟩
  | 1, _ => exact ⟨rfl, by decide +kernel⟩
  | 2, _ => exact ⟨rfl, by decide +kernel⟩
  | n + 3, h => omega
def choiceP (number many : Int) : Ch := ⟨number % many, wordP (number / 60 % 3), rightP number many⟩
theorem choice_good {number many : Int} (h2 : 2 ≤ many) : good (choiceP number many) many = true := by
  obtain ⟨l1, l2⟩ := mod_in number (m := many) (by omega)
  obtain ⟨r1, r2, r3⟩ := right_in (number := number) h2
  exact good_of (wordP_at (mod_in _ (by decide)).1 (mod_in _ (by decide)).2).2 r3 l1 r1 l2 r2
def sCh : Spec (Int × Int) where
  args := fun a => [dI a.1, dI a.2]
  pre := fun a => 0 ≤ a.1 ∧ 2 ≤ a.2 ∧ a.2 ≤ 5
  rt := fun a r J => r = .dat (chD (choiceP a.1 a.2))
theorem b_Ch (T : Tx P K mg) : Body P w K mg base dChoice nCh sCh 0 := by
  rintro ⟨number, many⟩ cdv A0 outer s W0 E hr ⟨h0, h2, h5⟩
  have h0 : 0 ≤ number := h0
  have h2 : 2 ≤ many := h2
  have h5 : many ≤ 5 := h5
  have nd := fs_Ch.nd
  refine wss_cons (ws_setI nd ?_)
  repeat walk_at "w"
  refine ⟨rfl, wss_cons (ws_setI nd ?_)⟩
  repeat walk_at "w"
  refine ⟨rfl, wss_cons (ws_ret ?_)⟩
  repeat walk_at "w"
  refine id_lst (ds := [.str ">=", .str ">", .str "!>="]) (d := .str (wordP (number / 60 % 3))) rfl (wordP_at (mod_in _ (by decide)).1 (mod_in _ (by decide)).2).1 ?_
  repeat walk_at "w"
  rfl
theorem c_Ch (T : Tx P K mg) : Cal P w K mg base 1 "_law_choice" (sCh.sp K) :=
  cal_of T (b_Ch T) rfl T.glo (by unfold fn; repeat (first | with_reducible exact List.Mem.head _ | apply List.Mem.tail)) rfl rfl fs_Ch (fun _ => rfl) (fun y => rfl) (by decide) (fun _ _ _ _ _ _ us h => match us, h with | [_, _], _ => rfl)
/-! _law_bad -/
abbrev nBd : List Str := ["number", "many", "left", "word", "right", "way"]
theorem fs_Bd : FnScope nBd ["number", "many"] dBad.scope := ⟨rfl, rfl, rfl, by decide +kernel, rfl, by decide +kernel, by decide +kernel⟩
def sBd : Spec (Int × Int) where
  args := fun a => [dI a.1, dI a.2]
  pre := fun a => 0 ≤ a.1 ∧ 2 ≤ a.2 ∧ a.2 ≤ 5
  rt := fun a r J => ∃ c : Ch, r = .dat (chD c) ∧ PyData.strOk c.w = true
def badWords : List Str := ["=", "=>", "<", ">= ", "!>", ""]
theorem badWords_ok : ∀ z ∈ badWords, PyData.strOk z = true := by
  have h : badWords.all PyData.strOk = true := by decide +kernel
  exact fun z hz => List.all_eq_true.mp h z hz
theorem b_Bd (T : Tx P K mg) : Body P w K mg base dBad nBd sBd 1 := by
  rintro ⟨number, many⟩ cdv A0 outer s W0 E hr ⟨h0, h2, h5⟩
  have h0 : 0 ≤ number := h0
  have h2 : 2 ≤ many := h2
  have h5 : many ≤ 5 := h5
  have nd := fs_Bd.nd
  have tk : Takes (actOf P w K mg base nBd dBad.qual dBad.scope (He.fAd K dBad.at_) cdv A0 outer s (sBd.md (number, many)) W0 E (sBd.ex (number, many))).X fun cls d _ H => E cls d H := takes_of rfl rfl rfl rfl
  refine wss_cons (ws_asg (we_call (c_Ch T) hr (by decide) tk ?_))
  repeat walk_at "w"
  refine ⟨⟨number, many⟩, rfl, rfl, ⟨h0, h2, h5⟩, fun z o q => q, fun _ _ _ => True.intro, fun z q => q.elim, fun r J' hh => ?_, fun e J' hh => hh.elim⟩
  have hw := words_ok (good_w (choice_good (number := number) h2))
  have hh : r = .dat (chD (choiceP number many)) := hh
  subst hh
  generalize choiceP number many = c at hw
  refine wg_tup (ds := chL c) rfl ?_
  refine wgs_cons (wg_name 2 ?_ nd)
  refine wgs_cons (wg_name 3 ?_ nd)
  refine wgs_cons (wg_name 4 ?_ nd)
  refine wgs_nil (wss_cons (ws_setI nd ?_))
  repeat walk_at "w"
  refine ⟨rfl, wss_cons (ws_if ?_)⟩
  repeat walk_at "w"
  refine ite_dec (fun _ => ?_) (fun _ => ?_)
  · refine wss_cons (ws_ret ?_)
    repeat walk_at "w"
    obtain ⟨z, hz, ez⟩ := str_at (zs := badWords) (i := number % 6) (mod_in _ (by decide)).1 (mod_in _ (by decide)).2
    refine id_lst (ds := [.str "=", .str "=>", .str "<", .str ">= ", .str "!>", .str ""]) (d := .str z) rfl ez ?_
    repeat walk_at "w"
    exact ⟨⟨c.l, z, c.r⟩, rfl, badWords_ok z hz⟩
  refine wss_nil (wss_cons (ws_if ?_))
  repeat walk_at "w"
  refine ite_dec (fun _ => ?_) (fun _ => ?_)
  · refine wss_cons (ws_ret ?_)
    repeat walk_at "w"
    exact ⟨⟨c.l, c.w, c.l⟩, rfl, hw⟩
  refine wss_nil (wss_cons (ws_if ?_))
  repeat walk_at "w"
  refine ite_dec (fun _ => ?_) (fun _ => ?_)
  · refine wss_cons (ws_ret ?_)
    repeat walk_at "w"
    exact ⟨⟨c.l, c.w, many⟩, rfl, hw⟩
  refine wss_nil (wss_cons (ws_if ?_))
  repeat walk_at "w"
  refine ite_dec (fun _ => ?_) (fun _ => ?_)
  · refine wss_cons (ws_ret ?_)
    repeat walk_at "w"
    exact ⟨⟨-1, c.w, c.r⟩, rfl, hw⟩
  refine wss_nil (wss_cons (ws_ret ?_))
  repeat walk_at "w"
  exact ⟨⟨many + number % 3, c.w, c.l⟩, rfl, hw⟩
theorem c_Bd (T : Tx P K mg) : Cal P w K mg base 2 "_law_bad" (sBd.sp K) :=
  cal_of T (b_Bd T) rfl T.glo (by unfold fn; repeat (first | with_reducible exact List.Mem.head _ | apply List.Mem.tail)) rfl rfl fs_Bd (fun _ => rfl) (fun y => rfl) (by decide) (fun _ _ _ _ _ _ us h => match us, h with | [_, _], _ => rfl)
/-! _law_names -/
abbrev nNs : List Str := ["numbers", "at", "letters", "size", "base", "spot", "names", "k", "letter"]
theorem fs_Ns : FnScope nNs ["numbers", "at"] dNames.scope := ⟨rfl, rfl, rfl, by decide +kernel, rfl, by decide +kernel, by decide +kernel⟩
def namesOk (names : List Str) : Prop := 2 ≤ names.length ∧ names.length ≤ 3 ∧ ∀ z ∈ names, z.length ≤ 200
def sNs : Spec (List Int × Nat) where
  args := fun a => [dL (a.1.map .int), dI a.2]
  pre := fun a => nOk a.1 ∧ a.2 + 10 ≤ a.1.length
  rt := fun a r J => ∃ names : List Str, r = dL (names.map .str) ∧ namesOk names
theorem let_at {z : Str} {i : Int} (h0 : 0 ≤ i) (h1 : i < z.length) : ∃ c, atI z.cps.toList i = some c := by
  obtain ⟨k, rfl⟩ := Int.eq_ofNat_of_zero_le h0
  have hk : k < z.cps.toList.length := by
    show k < z.cps.toList.length
    rw [Array.length_toList]
    have : (k : Int) < (z.cps.size : Int) := h1
    omega
  exact ⟨_, atI_nat (List.getElem?_eq_getElem hk)⟩
def lettersS : Str := "abcdefghijklmnopqrstuvwxyz"
theorem letters_len : lettersS.length = 26 := by decide +kernel
theorem b_Ns (T : Tx P K mg) : Body P w K mg base dNames nNs sNs 0 := by
  rintro ⟨ns, at_⟩ cdv A0 outer s W0 E hr ⟨hn, hat⟩
  have hn : nOk ns := hn
  have hat : at_ + 10 ≤ ns.length := hat
  have nd := fs_Ns.nd
  refine wss_cons (ws_setI nd ?_)
  walk_at "w"
  refine ⟨rfl, wss_cons (ws_setI nd ?_)⟩
  obtain ⟨n0, e0, g0, g0'⟩ := num_at hn (i := (at_ : Int)) (by omega) (by omega)
  obtain ⟨n1, e1, g1, g1'⟩ := num_at hn (i := (at_ : Int) + 1) (by omega) (by omega)
  obtain ⟨n2, e2, g2, g2'⟩ := num_at hn (i := (at_ : Int) + 2) (by omega) (by omega)
  obtain ⟨n3, e3, g3, g3'⟩ := num_at hn (i := (at_ : Int) + 3) (by omega) (by omega)
  obtain ⟨n4, e4, g4, g4'⟩ := num_at hn (i := (at_ : Int) + 4) (by omega) (by omega)
  repeat walk_at "w"
  refine id_lst rfl e0 ?_
  repeat walk_at "w"
  obtain ⟨s1, s2⟩ := mod_in n0 (m := 5) (by decide)
  generalize n0 % 5 = sz at s1 s2
  refine ⟨rfl, wss_cons (ws_setI nd ?_)⟩
  refine we_join (z := "") ?_
  repeat walk_at "w"
  refine ⟨rfl, ?_⟩
  refine we_lcR [("k", 7)] rfl nd T.free ?_ (ok := blkOk_by (N := nNs) (sc := dNames.scope) (by decide +kernel))
  walk_at "w"
  refine ⟨_, rfl, by omega, by omega, fun i acc => ∃ zs : List Str, zs.length = i ∧ (∀ z ∈ zs, z.length = 1) ∧ acc = zs.map .str, ⟨[], rfl, (fun z hz => absurd hz List.not_mem_nil), rfl⟩, ?_, ?_⟩
  · rintro i acc hi ⟨zs, hz1, hz2, rfl⟩
    obtain ⟨m1, m2⟩ := mod_in (n1 * ((i : Int) + 3) + i) (m := 26) (by decide)
    obtain ⟨ch, hch⟩ := let_at (z := lettersS) (i := (n1 * ((i : Int) + 3) + i) % 26) m1 (by rw [letters_len]; exact m2)
    refine ⟨[dL (ns.map .int), dI at_, dS lettersS, dI (1 + sz), .un, .un, .un, dI i, .un], true, fun s H C cl fp D => wgc_name 7 rfl nd, fun s H C cl fp D => rfl, ?_⟩
    refine iteT ⟨.str ⟨#[ch]⟩, ?_, ⟨zs ++ [⟨#[ch]⟩], ?_, fun z hz => ?_, ?_⟩, fun s H C cl fp D => ?_⟩
    · rw [List.length_map, hz1]; omega
    · rw [List.length_append, hz1]; rfl
    · rcases List.mem_append.mp hz with h | h
      · exact hz2 z h
      · rw [List.mem_singleton.mp h]; rfl
    · rw [List.map_append]; rfl
    · repeat walk_at "w"
      refine id_lst rfl e1 ?_
      repeat walk_at "w"
      refine id_str (by rw [letters_len]; decide) hch ?_
      rfl
  · rintro acc ⟨zs, hz1, hz2, rfl⟩
    have hzl : zs.length ≤ 5 := by omega
    have hsum : (zs.map (·.length)).sum ≤ zs.length := by
      clear hz1 hzl
      induction zs with
      | nil => exact Nat.le_refl _
      | cons z r ih =>
        show z.length + (r.map (·.length)).sum ≤ r.length + 1
        have := ih fun y hy => hz2 y (List.mem_cons_of_mem _ hy)
        rw [hz2 z List.mem_cons_self]
        omega
    refine ⟨zs, rfl, by show _ + zs.length * 0 ≤ _; omega, rfl, ?_⟩
    have hbl : (Txt.join "" zs).length ≤ 5 := by
      rw [TL.join_eq]
      refine Nat.le_trans (PySem.StrLaws.join_length_le "" zs) ?_
      show _ + zs.length * 0 ≤ _
      omega
    generalize Txt.join "" zs = bs at hbl
    refine wss_cons (ws_setI nd ?_)
    repeat walk_at "w"
    refine id_lst rfl e2 ?_
    repeat walk_at "w"
    obtain ⟨p1, p2⟩ := mod_in n2 (m := 1 + sz) (by omega)
    generalize n2 % (1 + sz) = sp at p1 p2
    refine ⟨rfl, wss_cons (ws_setI nd ?_)⟩
    repeat walk_at "w"
    refine ⟨rfl, wss_cons ?_⟩
    refine ws_forR (passes_of rfl) rfl T.free ?_
    repeat walk_at "w"
    refine id_lst rfl e3 ?_
    repeat walk_at "w"
    obtain ⟨q1, q2⟩ := mod_in n3 (m := 2) (by decide)
    generalize n3 % 2 = nn at q1 q2
    refine ⟨by omega, by omega, fun k ρ' J' => J' = .emp ∧ ∃ (names : List Str) (r7 r8 : Sl), names.length = k ∧ (∀ z ∈ names, z.length ≤ 200) ∧ ρ' = [dL (ns.map .int), dI at_, dS lettersS, dI (1 + sz), dS bs, dI sp, .own (names.map .str), r7, r8],
      ⟨rfl, [], _, _, rfl, (fun z hz => absurd hz List.not_mem_nil), rfl⟩, ?_, ?_⟩
    · rintro k ρ' J' hk ⟨rfl, names, r7, r8, hnl, hnz, rfl⟩
      have hk3 : k < 3 := by omega
      obtain ⟨n5, e5, g5, g5'⟩ := num_at hn (i := (at_ : Int) + 5 + k) (by omega) (by omega)
      refine wg_name 7 ?_ nd
      refine wss_cons (ws_setI nd ?_)
      repeat walk_at "w"
      refine id_lst rfl e4 ?_
      repeat walk_at "w"
      obtain ⟨m1, m2⟩ := mod_in (n4 + 9 * (k : Int)) (m := 26) (by decide)
      obtain ⟨ch, hch⟩ := let_at (z := lettersS) (i := (n4 + 9 * (k : Int)) % 26) m1 (by rw [letters_len]; exact m2)
      refine id_str (by rw [letters_len]; decide) hch ?_
      refine ⟨rfl, wss_cons (ws_append 6 ?_)⟩
      have l1 : ∀ lo hi, (cutS bs lo hi).length ≤ 5 := fun lo hi => Nat.le_trans (cutS_length bs lo hi) hbl
      have l2 : ∀ lo hi, (cutS lettersS lo hi).length ≤ 26 := fun lo hi => by rw [← letters_len]; exact cutS_length lettersS lo hi
      have l3 : (⟨#[ch]⟩ : Str).length = 1 := rfl
      repeat walk_at "w"
      refine sd_str (by omega) ?_
      repeat walk_at "w"
      refine od_addS (by have := l1 none (some sp); omega) ?_
      repeat walk_at "w"
      refine sd_str (by omega) ?_
      refine od_addS (by rw [Str.length_append]; have := l1 none (some sp); have := l1 (some (sp + 1)) none; omega) ?_
      repeat walk_at "w"
      refine id_lst rfl e5 ?_
      repeat walk_at "w"
      refine sd_str (by rw [letters_len]; decide) ?_
      refine od_addS (by rw [Str.length_append, Str.length_append]; have := l1 none (some sp); have := l1 (some (sp + 1)) none; have := l2 none (some (n5 % 3)); omega) ?_
      refine ⟨_, rfl, by rw [List.length_map]; omega, wss_nil ⟨rfl, names ++ [cutS bs none (some sp) ++ ⟨#[ch]⟩ ++ cutS bs (some (sp + 1)) none ++ cutS lettersS none (some (n5 % 3))], dI k, dS ⟨#[ch]⟩, ?_, fun z hz => ?_, ?_⟩⟩
      · rw [List.length_append, hnl]; rfl
      · rcases List.mem_append.mp hz with h | h
        · exact hnz z h
        · rw [List.mem_singleton.mp h, Str.length_append, Str.length_append, Str.length_append]
          have := l1 none (some sp)
          have := l1 (some (sp + 1)) none
          have := l2 none (some (n5 % 3))
          omega
      · rw [List.map_append]; rfl
    · rintro ρ' J' ⟨rfl, names, r7, r8, hnl, hnz, rfl⟩
      refine wss_cons (ws_ret ?_)
      walk_at "w"
      exact ⟨names, rfl, by omega, by omega, hnz⟩
theorem c_Ns (T : Tx P K mg) : Cal P w K mg base 1 "_law_names" (sNs.sp K) :=
  cal_of T (b_Ns T) rfl T.glo (by unfold fn; repeat (first | with_reducible exact List.Mem.head _ | apply List.Mem.tail)) rfl rfl fs_Ns (fun _ => rfl) (fun y => rfl) (by decide) (fun _ _ _ _ _ _ us h => match us, h with | [_, _], _ => rfl)
end
end KK

namespace KK
open PySem PySem.Spec PyProof.Rows L2 DL
local macro_rules | `(tactic| walk_at "v") => `(tactic| first
  | refine we_varI ?_
  | refine we_varOI ?_
  | ((with_reducible refine (?_ : We _ (.Name "int" _) _ _ _)); refine we_ty (Tx.f_int (by assumption)) boot_int' ?_)
  | ((with_reducible refine (?_ : We _ (.Name "bool" _) _ _ _)); refine we_ty (Tx.f_bool (by assumption)) boot_bool' ?_)
  | ((with_reducible refine (?_ : We _ (.Name "str" _) _ _ _)); refine we_ty (Tx.f_str (by assumption)) boot_str' ?_)
  | ((with_reducible refine (?_ : We _ (.Name "tuple" _) _ _ _)); refine we_ty (Tx.f_tuple (by assumption)) boot_tuple' ?_)
  | ((with_reducible refine (?_ : We _ (.Name "list" _) _ _ _)); refine we_ty (Tx.f_list (by assumption)) boot_list' ?_)
  | refine we_glob (Tx.int (by assumption)) (fun _ => .int _) ?_)
local macro_rules | `(tactic| walk_at "b") => `(tactic| first
  | ((with_reducible refine (?_ : We _ (.Call (.Name "len" _) _ _ _) _ _ _)); refine we_callB (Tx.f_len (by assumption)) boot_len ?_; refine wa_cons ?_)
  | ((with_reducible refine (?_ : We _ (.Call (.Name "isinstance" _) _ _ _) _ _ _)); refine we_callB (Tx.f_isinstance (by assumption)) DL.boot_isinstance ?_; refine wa_cons ?_)
  | ((with_reducible refine (?_ : We _ (.Call (.Name "max" _) _ _ _) _ _ _)); refine we_callB (Tx.f_max (by assumption)) boot_max' ?_; refine wa_cons ?_)
  | ((with_reducible refine (?_ : We _ (.Call (.Name "min" _) _ _ _) _ _ _)); refine we_callB (Tx.f_min (by assumption)) boot_min' ?_; refine wa_cons ?_)
  | ((with_reducible refine (?_ : We _ (.Call (.Name "int" _) _ _ _) _ _ _)); refine we_callTy (Tx.f_int (by assumption)) boot_int' ?_; refine wa_cons ?_)
  | ((with_reducible refine (?_ : We _ (.Call (.Name "tuple" _) _ _ _) _ _ _)); refine we_callTy (Tx.f_tuple (by assumption)) boot_tuple' ?_; refine wa_cons ?_)
  | ((with_reducible refine (?_ : We _ (.Call (.Name "list" _) _ _ _) _ _ _)); refine we_callTy (Tx.f_list (by assumption)) boot_list' ?_; refine wa_cons ?_))
local macro_rules | `(tactic| walk_at "k") => `(tactic| first | refine we_int ?_ | refine we_str ?_ | refine we_bl ?_ | refine we_non ?_)
local macro_rules | `(tactic| walk_at "o+") => `(tactic| first | refine od_add ?_)
local macro_rules | `(tactic| walk_at "oe") => `(tactic| first | refine od_eqI ?_ | refine od_eqS ?_)
local macro_rules | `(tactic| walk_at "on") => `(tactic| first | refine od_neI ?_ | refine od_neS ?_)
local macro_rules | `(tactic| walk_at "c") => `(tactic| first | refine cd_int ?_ | refine cd_tup rfl ?_ | refine cd_tupT ?_ | refine cd_lst rfl ?_ | refine cd_lstT ?_)
local macro_rules | `(tactic| walk_at "w") => `(tactic| first
  | ((with_reducible refine (?_ : We _ (.Name _ _) _ _ _)); walk_at "v")
  | ((with_reducible refine (?_ : We _ (.Constant _ _ _) _ _ _)); walk_at "k")
  | ((with_reducible refine (?_ : We _ (.Subscript _ (.Slice _ _ _ _) _) _ _ _)); refine we_slice ?_)
  | ((with_reducible refine (?_ : We _ (.Subscript _ _ _) _ _ _)); refine we_ix (fun _ _ => rfl) ?_)
  | ((with_reducible refine (?_ : We _ (.Call _ _ _ _) _ _ _)); walk_at "b")
  | ((with_reducible refine (?_ : We _ (.BinOp _ _ _ _) _ _ _)); refine we_bin ?_)
  | ((with_reducible refine (?_ : We _ (.Compare _ _ _ _) _ _ _)); refine we_cmp rfl ?_)
  | ((with_reducible refine (?_ : We _ (.UnaryOp .USub _ _) _ _ _)); refine we_un ?_)
  | ((with_reducible refine (?_ : We _ (.Tuple _ _ _) _ _ _)); refine we_tup ?_)
  | ((with_reducible refine (?_ : We _ (.List _ _) _ _ _)); refine we_lst ?_)
  | ((with_reducible refine (?_ : Wa _ [] _ _ _)); refine wa_nil ?_)
  | ((with_reducible refine (?_ : Wa _ (_ :: _) _ _ _)); refine wa_cons ?_)
  | ((with_reducible refine (?_ : Wt _ (.Compare _ _ _ _) _ _ _)); refine wt_cmp rfl ?_)
  | ((with_reducible refine (?_ : Wt _ (.UnaryOp .Not _ _) _ _ _)); refine wt_not ?_)
  | ((with_reducible refine (?_ : Wt _ (.BoolOp _ _ _) _ _ _)); refine wt_bool ?_)
  | ((with_reducible refine (?_ : Ww _ (.BoolOp .And (_ :: _ :: _) _) _ _ _)); refine ww_and ?_)
  | ((with_reducible refine (?_ : Ww _ (.BoolOp .Or (_ :: _ :: _) _) _ _ _)); refine ww_or ?_)
  | ((with_reducible refine (?_ : Ww _ (.BoolOp .And _ _) _ _ _)); refine ww_and1 ?_)
  | ((with_reducible refine (?_ : Ww _ (.BoolOp .Or _ _) _ _ _)); refine ww_or1 ?_)
  | ((with_reducible refine (?_ : Wp _ none _ _ _)); refine wp_none ?_)
  | ((with_reducible refine (?_ : Wp _ (some _) _ _ _)); refine wp_some ?_)
  | ((with_reducible refine (?_ : Od _ (binaryOp .Add) _ _ _ _ _)); refine od_add ?_)
  | ((with_reducible refine (?_ : Od _ (binaryOp .Sub) _ _ _ _ _)); refine od_sub ?_)
  | ((with_reducible refine (?_ : Od _ (binaryOp .Mult) _ _ _ _ _)); refine od_mul ?_)
  | ((with_reducible refine (?_ : Od _ (binaryOp .FloorDiv) _ _ _ _ _)); refine od_fdiv ?_)
  | ((with_reducible refine (?_ : Od _ (binaryOp .Mod) _ _ _ _ _)); refine od_mod ?_)
  | ((with_reducible refine (?_ : Od _ (compareOp .Eq) _ _ _ _ _)); walk_at "oe")
  | ((with_reducible refine (?_ : Od _ (compareOp .NotEq) _ _ _ _ _)); walk_at "on")
  | ((with_reducible refine (?_ : Od _ (compareOp .Lt) _ _ _ _ _)); refine od_lt ?_)
  | ((with_reducible refine (?_ : Od _ (compareOp .LtE) _ _ _ _ _)); refine od_le ?_)
  | ((with_reducible refine (?_ : Od _ (compareOp .Gt) _ _ _ _ _)); refine od_gt ?_)
  | ((with_reducible refine (?_ : Od _ (compareOp .GtE) _ _ _ _ _)); refine od_ge ?_)
  | ((with_reducible refine (?_ : Od _ (compareOp .Is) _ _ _ _ _)); refine od_isN ?_)
  | ((with_reducible refine (?_ : Od _ (compareOp .IsNot) _ _ _ _ _)); refine od_isnotN ?_)
  | ((with_reducible refine (?_ : Ud _ _ _ _ _ _)); refine ud_neg ?_)
  | ((with_reducible refine (?_ : Cd _ (.type _) _ _ _ _)); walk_at "c")
  | ((with_reducible refine (?_ : Id _ _ _ (.dat (.tuple _)) _ _)); refine id_tup (by rfl) ?_)
  | ((with_reducible refine (?_ : ∃ k, Sl.dat (PyData.bool _) = Sl.dat (PyData.bool k) ∧ _)); refine ⟨_, rfl, ?_⟩)
  | ((with_reducible refine (?_ : ∃ i, Sl.dat (PyData.int _) = Sl.dat (PyData.int i) ∧ _)); refine ⟨_, rfl, ?_⟩)
  | ((with_reducible refine (?_ : ∃ ds, datsOf _ = some ds ∧ _ ∧ _)); refine ⟨_, rfl, Nat.le_of_ble_eq_true rfl, ?_⟩)
  | ((with_reducible refine (?_ : Id _ _ _ (.dat _) _ _)); refine id_tup (by rfl) ?_))
section
variable {P : Program} {w : World} {K : PySem.W.Frag} {mg : Str → Option Value} {base : Heap}
/-! ### _law_nth, _law_list -/
abbrev nNt : List Str := ["number", "many", "left", "right"]
theorem fs_Nt : FnScope nNt ["number", "many"] dNth.scope := ⟨rfl, rfl, rfl, by decide +kernel, rfl, by decide +kernel, by decide +kernel⟩
def nthP (number many : Int) : Ch := ⟨number % many, wordP (number / (many * (many - 1)) % 3), rightP number many⟩
theorem nth_good {number many : Int} (h2 : 2 ≤ many) : good (nthP number many) many = true := by
  obtain ⟨l1, l2⟩ := mod_in number (m := many) (by omega)
  obtain ⟨r1, r2, r3⟩ := right_in (number := number) h2
  exact good_of (wordP_at (mod_in _ (by decide)).1 (mod_in _ (by decide)).2).2 r3 l1 r1 l2 r2
def sNt : Spec (Int × Int) where
  args := fun a => [dI a.1, dI a.2]
  pre := fun a => 0 ≤ a.1 ∧ 2 ≤ a.2 ∧ a.2 ≤ 5
  rt := fun a r J => r = .dat (chD (nthP a.1 a.2))
theorem b_Nt (T : Tx P K mg) : Body P w K mg base dNth nNt sNt 0 := by
  rintro ⟨number, many⟩ cdv A0 outer s W0 E hr ⟨h0, h2, h5⟩
  have h0 : 0 ≤ number := h0
  have h2 : 2 ≤ many := h2
  have h5 : many ≤ 5 := h5
  have nd := fs_Nt.nd
  have hm : 0 < many * (many - 1) ∧ many * (many - 1) < 1073741824 := by
    have h : many = 2 ∨ many = 3 ∨ many = 4 ∨ many = 5 := by omega
    rcases h with h | h | h | h <;> subst h <;> exact ⟨by decide, by decide⟩
  refine wss_cons (ws_setI nd ?_)
  repeat walk_at "w"
  refine ⟨rfl, wss_cons (ws_setI nd ?_)⟩
  repeat walk_at "w"
  refine ⟨rfl, wss_cons (ws_ret ?_)⟩
  repeat walk_at "w"
  refine od_fdiv ?_ hm
  repeat walk_at "w"
  refine id_lst (ds := [.str ">=", .str ">", .str "!>="]) (d := .str (wordP (number / (many * (many - 1)) % 3))) rfl (wordP_at (mod_in _ (by decide)).1 (mod_in _ (by decide)).2).1 ?_
  repeat walk_at "w"
  rfl
theorem c_Nt (T : Tx P K mg) : Cal P w K mg base 1 "_law_nth" (sNt.sp K) :=
  cal_of T (b_Nt T) rfl T.glo (by unfold fn; repeat (first | with_reducible exact List.Mem.head _ | apply List.Mem.tail)) rfl rfl fs_Nt (fun _ => rfl) (fun y => rfl) (by decide) (fun _ _ _ _ _ _ us h => match us, h with | [_, _], _ => rfl)
abbrev nLi : List Str := ["numbers", "at", "many", "start", "known", "choices", "k", "number", "way", "spot"]
theorem fs_Li : FnScope nLi ["numbers", "at", "many", "start", "known"] dList.scope := ⟨rfl, rfl, rfl, by decide +kernel, rfl, by decide +kernel, by decide +kernel⟩
structure LiA where
  ns : List Int
  at_ : Nat
  many : Int
  start : Int
  known : Int
def sLi : Spec LiA where
  args := fun a => [dL (a.ns.map .int), dI a.at_, dI a.many, dI a.start, dI a.known]
  pre := fun a => nOk a.ns ∧ a.at_ + 7 ≤ a.ns.length ∧ 2 ≤ a.many ∧ a.many ≤ 5 ∧ 0 ≤ a.start ∧ 5 ≤ a.known ∧ a.known ≤ 8
  rt := fun a r J => ∃ cs : List Ch, r = dL (cs.map chD) ∧ cs.length ≤ 100 ∧ ∀ c ∈ cs, PyData.strOk c.w = true
theorem ints_at {zs : List Int} {i : Int} (h0 : 0 ≤ i) (h1 : i < zs.length) : ∃ z ∈ zs, atI (zs.map PyData.int) i = some (.int z) := by
  obtain ⟨k, rfl⟩ := Int.eq_ofNat_of_zero_le h0
  have hk : k < zs.length := by omega
  exact ⟨zs[k], List.getElem_mem hk, atI_nat (by rw [List.getElem?_map, List.getElem?_eq_getElem hk]; rfl)⟩
def cntL : List Int := [0, 1, 2, 3, 4, 6, 0]
theorem ins_len (cs : List Ch) (c : Ch) (i : Nat) (h : i ≤ cs.length) : (cs.take i ++ [c] ++ cs.drop i).length = cs.length + 1 := by
  rw [List.length_append, List.length_append, List.length_take, List.length_drop]
  show min i cs.length + 1 + _ = _
  omega
theorem ins_ok {cs : List Ch} {c : Ch} {i : Nat} (h : ∀ x ∈ cs, PyData.strOk x.w = true) (hc : PyData.strOk c.w = true) : ∀ x ∈ cs.take i ++ [c] ++ cs.drop i, PyData.strOk x.w = true := fun x hx => by
  rcases List.mem_append.mp hx with z | z
  · rcases List.mem_append.mp z with z | z
    · exact h x (List.mem_of_mem_take z)
    · rw [List.mem_singleton.mp z]; exact hc
  · exact h x (List.mem_of_mem_drop z)
theorem b_Li (T : Tx P K mg) : Body P w K mg base dList nLi sLi 2 := by
  rintro ⟨ns, at_, many, start, known⟩ cdv A0 outer s W0 E hr ⟨hn, hat, h2, h5, hst, hk5, hk8⟩
  have hn : nOk ns := hn
  have hat : at_ + 7 ≤ ns.length := hat
  have h2 : 2 ≤ many := h2
  have h5 : many ≤ 5 := h5
  have hst : 0 ≤ start := hst
  have hk5 : 5 ≤ known := hk5
  have hk8 : known ≤ 8 := hk8
  have nd := fs_Li.nd
  have tk : Takes (actOf P w K mg base nLi dList.qual dList.scope (He.fAd K dList.at_) cdv A0 outer s (sLi.md ⟨ns, at_, many, start, known⟩) W0 E (sLi.ex ⟨ns, at_, many, start, known⟩)).X fun cls d _ H => E cls d H := takes_of rfl rfl rfl rfl
  obtain ⟨n0, e0, g0, g0'⟩ := num_at hn (i := (at_ : Int)) (by omega) (by omega)
  obtain ⟨n1, e1, g1, g1'⟩ := num_at hn (i := (at_ : Int) + 1) (by omega) (by omega)
  obtain ⟨n2, e2, g2, g2'⟩ := num_at hn (i := (at_ : Int) + 2) (by omega) (by omega)
  obtain ⟨n3, e3, g3, g3'⟩ := num_at hn (i := (at_ : Int) + 3) (by omega) (by omega)
  obtain ⟨n4, e4, g4, g4'⟩ := num_at hn (i := (at_ : Int) + 4) (by omega) (by omega)
  obtain ⟨n5, e5, g5, g5'⟩ := num_at hn (i := (at_ : Int) + 5) (by omega) (by omega)
  obtain ⟨n6, e6, g6, g6'⟩ := num_at hn (i := (at_ : Int) + 6) (by omega) (by omega)
  refine wss_cons (ws_setI nd ?_)
  repeat walk_at "w"
  refine ⟨rfl, wss_cons ?_⟩
  refine ws_forR (passes_of rfl) rfl T.free ?_
  repeat walk_at "w"
  refine id_lst rfl e0 ?_
  repeat walk_at "w"
  obtain ⟨z, hz, ez⟩ := ints_at (zs := cntL) (i := n0 % 7) (mod_in _ (by decide)).1 (mod_in _ (by decide)).2
  have hz6 : 0 ≤ z ∧ z ≤ 6 := by
    unfold cntL at hz
    simp only [List.mem_cons, List.not_mem_nil, or_false] at hz
    omega
  refine id_lst (ds := [.int 0, .int 1, .int 2, .int 3, .int 4, .int 6, .int 0]) (d := .int z) rfl ez ?_
  refine ⟨_, rfl, by omega, by omega, fun k ρ' J' => J' = .emp ∧ ∃ (cs : List Ch) (r6 r7 : Sl), cs.length = k ∧ (∀ c ∈ cs, PyData.strOk c.w = true) ∧ ρ' = [dL (ns.map .int), dI at_, dI many, dI start, dI known, .own (cs.map chD), r6, r7, .un, .un],
    ⟨rfl, [], _, _, rfl, (fun c hc => absurd hc List.not_mem_nil), rfl⟩, ?_, ?_⟩
  · rintro k ρ' J' hk ⟨rfl, cs, r6, r7, hcl, hcs, rfl⟩
    have hk6 : k < 6 := by omega
    refine wg_name 6 ?_ nd
    refine wss_cons (ws_setI nd ?_)
    repeat walk_at "w"
    refine id_lst rfl e1 ?_
    repeat walk_at "w"
    refine od_shl ?_ ⟨by omega, by omega, by decide⟩
    have hsh : 0 < (1 : Int) * 2 ^ ((k : Int)).toNat ∧ (1 : Int) * 2 ^ ((k : Int)).toNat < 1073741824 := by
      match k, hk6 with
      | 0, _ => exact ⟨by decide, by decide⟩
      | 1, _ => exact ⟨by decide, by decide⟩
      | 2, _ => exact ⟨by decide, by decide⟩
      | 3, _ => exact ⟨by decide, by decide⟩
      | 4, _ => exact ⟨by decide, by decide⟩
      | 5, _ => exact ⟨by decide, by decide⟩
      | n + 6, h => omega
    refine od_fdiv ?_ hsh
    repeat walk_at "w"
    obtain ⟨u1, u2⟩ := mod_in (n1 / (1 * 2 ^ ((k : Int)).toNat)) (m := 4) (by decide)
    generalize n1 / (1 * 2 ^ ((k : Int)).toNat) % 4 = nu at u1 u2
    refine ⟨rfl, wss_cons (ws_if ?_)⟩
    repeat walk_at "w"
    refine ite_dec (fun _ => ?_) (fun _ => ?_)
    · refine wss_cons (ws_append 5 ?_)
      refine we_call (c_Nt T) hr (by decide) tk ?_
      repeat walk_at "w"
      refine ⟨⟨start + known + k, many⟩, rfl, rfl, ⟨by show 0 ≤ start + known + (k : Int); omega, h2, h5⟩, fun z o q => q, fun _ _ _ => True.intro, fun z q => q.elim, fun r J' hh => ?_, fun e J' hh => hh.elim⟩
      have hh : r = .dat (chD (nthP (start + known + k) many)) := hh
      subst hh
      refine ⟨_, rfl, by rw [List.length_map]; omega, wss_nil (wss_nil ⟨rfl, cs ++ [nthP (start + known + k) many], dI k, dI nu, ?_, fun c hc => ?_, ?_⟩)⟩
      · rw [List.length_append, hcl]; rfl
      · rcases List.mem_append.mp hc with h | h
        · exact hcs c h
        · rw [List.mem_singleton.mp h]; exact words_ok (good_w (nth_good h2))
      · rw [List.map_append]; rfl
    · refine wss_cons (ws_append 5 ?_)
      refine we_call (c_Nt T) hr (by decide) tk ?_
      repeat walk_at "w"
      refine id_lst rfl e0 ?_
      repeat walk_at "w"
      have hv := mod_in (nu * 5 + k + n0) (m := known) (by omega)
      refine ⟨⟨start + (nu * 5 + k + n0) % known, many⟩, rfl, rfl, ⟨by show 0 ≤ start + (nu * 5 + (k : Int) + n0) % known; omega, h2, h5⟩, fun z o q => q, fun _ _ _ => True.intro, fun z q => q.elim, fun r J' hh => ?_, fun e J' hh => hh.elim⟩
      have hh : r = .dat (chD (nthP (start + (nu * 5 + k + n0) % known) many)) := hh
      subst hh
      refine ⟨_, rfl, by rw [List.length_map]; omega, wss_nil (wss_nil ⟨rfl, cs ++ [nthP (start + (nu * 5 + k + n0) % known) many], dI k, dI nu, ?_, fun c hc => ?_, ?_⟩)⟩
      · rw [List.length_append, hcl]; rfl
      · rcases List.mem_append.mp hc with h | h
        · exact hcs c h
        · rw [List.mem_singleton.mp h]; exact words_ok (good_w (nth_good h2))
      · rw [List.map_append]; rfl
  rintro ρ' J' ⟨rfl, cs, r6, r7, hcl, hcs, rfl⟩
  have hcl : cs.length ≤ 6 := by have h : cs.length = z.toNat := hcl; omega
  refine wss_cons (ws_setI nd ?_)
  repeat walk_at "w"
  refine id_lst rfl e2 ?_
  repeat walk_at "w"
  refine ⟨rfl, wss_cons (ws_setI nd ?_)⟩
  repeat walk_at "w"
  refine id_lst rfl e3 ?_
  repeat walk_at "w"
  refine cd_len (d := .list (cs.map chD)) (n := cs.length) rfl (congrArg some (List.length_map _)) (by omega) ?_
  repeat walk_at "w"
  obtain ⟨v1, v2⟩ := mod_in n3 (m := (cs.length : Int) + 1) (by omega)
  generalize n3 % ((cs.length : Int) + 1) = sp0 at v1 v2
  obtain ⟨i0, rfl⟩ := Int.eq_ofNat_of_zero_le v1
  -- the end
  have fin : ∀ (cs' : List Ch) (r8 r9 : Sl), cs'.length ≤ 100 → (∀ c ∈ cs', PyData.strOk c.w = true) → Wss (actOf P w K mg base nLi dList.qual dList.scope (He.fAd K dList.at_) cdv A0 outer s (sLi.md ⟨ns, at_, many, start, known⟩) W0 E (sLi.ex ⟨ns, at_, many, start, known⟩)) (dList.body.drop 6)
      [dL (ns.map .int), dI at_, dI many, dI start, dI known, .own (cs'.map chD), r6, r7, r8, r9] .emp (fun _ J' => sLi.rt ⟨ns, at_, many, start, known⟩ dN J') (sLi.rt ⟨ns, at_, many, start, known⟩) (fun _ _ => False) (fun _ _ => False) := fun cs' r8 r9 hl ho => by
    refine wss_cons (ws_ret ?_)
    walk_at "w"
    exact ⟨cs', rfl, hl, ho⟩
  -- one wrong choice put in: the statement behind it
  have put : ∀ (cs' : List Ch) (nn ix : Int) (i : Nat) (way : Int) (st : Stmt) (nx : List Sl → Res → Prop) (rt : Sl → Res → Prop) (bk ct : List Sl → Res → Prop), cs'.length ≤ 90 → (∀ c ∈ cs', PyData.strOk c.w = true) → i ≤ cs'.length → 0 ≤ nn → atI (ns.map PyData.int) ((at_ : Int) + ix) = some (.int nn) →
      (st = (match dList.body.getD 4 (.Pass ⟨0, 0, 0, 0⟩) with | .If _ b _ _ => b.getD 0 (.Pass ⟨0, 0, 0, 0⟩) | _ => .Pass ⟨0, 0, 0, 0⟩) ∧ ix = 4 ∨ st = (match dList.body.getD 5 (.Pass ⟨0, 0, 0, 0⟩) with | .If _ b _ _ => b.getD 1 (.Pass ⟨0, 0, 0, 0⟩) | _ => .Pass ⟨0, 0, 0, 0⟩) ∧ ix = 6) →
      (∀ cs2 : List Ch, cs2.length = cs'.length + 1 → (∀ c ∈ cs2, PyData.strOk c.w = true) → nx [dL (ns.map .int), dI at_, dI many, dI start, dI known, .own (cs2.map chD), r6, r7, dI way, dI i] .emp) →
      Ws (actOf P w K mg base nLi dList.qual dList.scope (He.fAd K dList.at_) cdv A0 outer s (sLi.md ⟨ns, at_, many, start, known⟩) W0 E (sLi.ex ⟨ns, at_, many, start, known⟩)) st
        [dL (ns.map .int), dI at_, dI many, dI start, dI known, .own (cs'.map chD), r6, r7, dI way, dI i] .emp nx rt bk ct := by
    intro cs' nn ix i way st nx rt bk ct hl ho hi hnn hat' hst' hnx
    have ml : (cs'.map chD).length = cs'.length := List.length_map _
    rcases hst' with ⟨h, hix⟩ | ⟨h, hix⟩
    all_goals
      subst h
      subst hix
      refine ws_setI nd ?_
      repeat walk_at "w"
      refine sd_lst rfl ?_
      rw [cut_to (by rw [ml]; exact hi)]
      walk_at "w"
      walk_at "w"
      refine we_call (c_Bd T) hr (by decide) tk ?_
      repeat walk_at "w"
      refine id_lst rfl hat' ?_
      repeat walk_at "w"
      refine ⟨⟨nn, many⟩, rfl, rfl, ⟨hnn, h2, h5⟩, fun z o q => q, fun _ _ _ => True.intro, fun z q => q.elim, fun r J' hh => ?_, fun e J' hh => hh.elim⟩
      obtain ⟨c, rfl, hc⟩ := hh
      repeat walk_at "w"
      refine od_addL (ds := (cs'.map chD).take i) (es := [chD c]) rfl rfl (by rw [List.length_take, ml]; show min i _ + 1 ≤ _; omega) ?_
      repeat walk_at "w"
      refine sd_lst rfl ?_
      rw [cut_from (by rw [ml]; exact hi)]
      refine od_addL (ds := (cs'.map chD).take i ++ [chD c]) (es := (cs'.map chD).drop i) rfl rfl (by rw [List.length_append, List.length_take, List.length_drop, ml]; show min i _ + 1 + _ ≤ _; omega) ?_
      refine ⟨rfl, ?_⟩
      have e : (cs'.map chD).take i ++ [chD c] ++ (cs'.map chD).drop i = (cs'.take i ++ [c] ++ cs'.drop i).map chD := by
        rw [List.map_append, List.map_append, List.map_take, List.map_drop]; rfl
      rw [e]
      exact hnx _ (ins_len cs' c i hi) (ins_ok ho hc)
  have hi0 : i0 ≤ cs.length := by omega
  obtain ⟨w1, w2⟩ := mod_in n2 (m := 4) (by decide)
  generalize n2 % 4 = way at w1 w2
  -- behind the first one
  have second : ∀ (cs' : List Ch) (i : Nat), cs'.length ≤ 7 → (∀ c ∈ cs', PyData.strOk c.w = true) → Wss (actOf P w K mg base nLi dList.qual dList.scope (He.fAd K dList.at_) cdv A0 outer s (sLi.md ⟨ns, at_, many, start, known⟩) W0 E (sLi.ex ⟨ns, at_, many, start, known⟩)) (dList.body.drop 5)
      [dL (ns.map .int), dI at_, dI many, dI start, dI known, .own (cs'.map chD), r6, r7, dI way, dI i] .emp (fun _ J' => sLi.rt ⟨ns, at_, many, start, known⟩ dN J') (sLi.rt ⟨ns, at_, many, start, known⟩) (fun _ _ => False) (fun _ _ => False) := fun cs' i hl ho => by
    refine wss_cons (ws_if ?_)
    repeat walk_at "w"
    refine ite_dec (fun _ => ?_) (fun _ => wss_nil (fin cs' _ _ (by omega) ho))
    refine wss_cons (ws_setI nd ?_)
    repeat walk_at "w"
    refine id_lst rfl e5 ?_
    repeat walk_at "w"
    refine cd_len (d := .list (cs'.map chD)) (n := cs'.length) rfl (congrArg some (List.length_map _)) (by omega) ?_
    repeat walk_at "w"
    obtain ⟨v1, v2⟩ := mod_in n5 (m := (cs'.length : Int) + 1) (by omega)
    generalize n5 % ((cs'.length : Int) + 1) = sp1 at v1 v2
    obtain ⟨i1, rfl⟩ := Int.eq_ofNat_of_zero_le v1
    refine ⟨rfl, wss_cons (put cs' n6 6 i1 way _ _ _ _ _ (by omega) ho (by omega) g6 e6 (.inr ⟨rfl, rfl⟩) fun cs2 l2 o2 => wss_nil (fin cs2 _ _ (by omega) o2))⟩
  refine ⟨rfl, wss_cons (ws_if ?_)⟩
  repeat walk_at "w"
  refine ite_dec (fun _ => ?_) (fun _ => ?_)
  · exact iteT (wss_cons (put cs n4 4 i0 way _ _ _ _ _ (by omega) hcs hi0 g4 e4 (.inl ⟨rfl, rfl⟩) fun cs2 l2 o2 => wss_nil (second cs2 i0 (by omega) o2)))
  · repeat walk_at "w"
    refine ite_dec (fun _ => ?_) (fun _ => ?_)
    · exact wss_cons (put cs n4 4 i0 way _ _ _ _ _ (by omega) hcs hi0 g4 e4 (.inl ⟨rfl, rfl⟩) fun cs2 l2 o2 => wss_nil (second cs2 i0 (by omega) o2))
    · exact wss_nil (second cs i0 (by omega) hcs)
theorem c_Li (T : Tx P K mg) : Cal P w K mg base 3 "_law_list" (sLi.sp K) :=
  cal_of T (b_Li T) rfl T.glo (by unfold fn; repeat (first | with_reducible exact List.Mem.head _ | apply List.Mem.tail)) rfl rfl fs_Li (fun _ => rfl) (fun y => rfl) (by decide) (fun _ _ _ _ _ _ us h => match us, h with | [_, _, _, _, _], _ => rfl)
end
end KK

namespace KK
open PySem PySem.Spec PyProof.Rows L2 DL
local macro_rules | `(tactic| walk_at "v") => `(tactic| first
  | refine we_varI ?_
  | refine we_varOI ?_
  | ((with_reducible refine (?_ : We _ (.Name "int" _) _ _ _)); refine we_ty (Tx.f_int (by assumption)) boot_int' ?_)
  | ((with_reducible refine (?_ : We _ (.Name "bool" _) _ _ _)); refine we_ty (Tx.f_bool (by assumption)) boot_bool' ?_)
  | ((with_reducible refine (?_ : We _ (.Name "str" _) _ _ _)); refine we_ty (Tx.f_str (by assumption)) boot_str' ?_)
  | ((with_reducible refine (?_ : We _ (.Name "tuple" _) _ _ _)); refine we_ty (Tx.f_tuple (by assumption)) boot_tuple' ?_)
  | ((with_reducible refine (?_ : We _ (.Name "list" _) _ _ _)); refine we_ty (Tx.f_list (by assumption)) boot_list' ?_)
  | refine we_glob (Tx.int (by assumption)) (fun _ => .int _) ?_)
local macro_rules | `(tactic| walk_at "b") => `(tactic| first
  | ((with_reducible refine (?_ : We _ (.Call (.Name "len" _) _ _ _) _ _ _)); refine we_callB (Tx.f_len (by assumption)) boot_len ?_; refine wa_cons ?_)
  | ((with_reducible refine (?_ : We _ (.Call (.Name "isinstance" _) _ _ _) _ _ _)); refine we_callB (Tx.f_isinstance (by assumption)) DL.boot_isinstance ?_; refine wa_cons ?_)
  | ((with_reducible refine (?_ : We _ (.Call (.Name "max" _) _ _ _) _ _ _)); refine we_callB (Tx.f_max (by assumption)) boot_max' ?_; refine wa_cons ?_)
  | ((with_reducible refine (?_ : We _ (.Call (.Name "min" _) _ _ _) _ _ _)); refine we_callB (Tx.f_min (by assumption)) boot_min' ?_; refine wa_cons ?_)
  | ((with_reducible refine (?_ : We _ (.Call (.Name "int" _) _ _ _) _ _ _)); refine we_callTy (Tx.f_int (by assumption)) boot_int' ?_; refine wa_cons ?_)
  | ((with_reducible refine (?_ : We _ (.Call (.Name "tuple" _) _ _ _) _ _ _)); refine we_callTy (Tx.f_tuple (by assumption)) boot_tuple' ?_; refine wa_cons ?_)
  | ((with_reducible refine (?_ : We _ (.Call (.Name "list" _) _ _ _) _ _ _)); refine we_callTy (Tx.f_list (by assumption)) boot_list' ?_; refine wa_cons ?_))
local macro_rules | `(tactic| walk_at "k") => `(tactic| first | refine we_int ?_ | refine we_str ?_ | refine we_bl ?_ | refine we_non ?_)
local macro_rules | `(tactic| walk_at "o+") => `(tactic| first | refine od_add ?_)
local macro_rules | `(tactic| walk_at "oe") => `(tactic| first | refine od_eqI ?_ | refine od_eqS ?_)
local macro_rules | `(tactic| walk_at "on") => `(tactic| first | refine od_neI ?_ | refine od_neS ?_)
local macro_rules | `(tactic| walk_at "c") => `(tactic| first | refine cd_int ?_ | refine cd_tup rfl ?_ | refine cd_tupT ?_ | refine cd_lst rfl ?_ | refine cd_lstT ?_)
local macro_rules | `(tactic| walk_at "w") => `(tactic| first
  | ((with_reducible refine (?_ : We _ (.Name _ _) _ _ _)); walk_at "v")
  | ((with_reducible refine (?_ : We _ (.Constant _ _ _) _ _ _)); walk_at "k")
  | ((with_reducible refine (?_ : We _ (.Subscript _ (.Slice _ _ _ _) _) _ _ _)); refine we_slice ?_)
  | ((with_reducible refine (?_ : We _ (.Subscript _ _ _) _ _ _)); refine we_ix (fun _ _ => rfl) ?_)
  | ((with_reducible refine (?_ : We _ (.Call _ _ _ _) _ _ _)); walk_at "b")
  | ((with_reducible refine (?_ : We _ (.BinOp _ _ _ _) _ _ _)); refine we_bin ?_)
  | ((with_reducible refine (?_ : We _ (.Compare _ _ _ _) _ _ _)); refine we_cmp rfl ?_)
  | ((with_reducible refine (?_ : We _ (.UnaryOp .USub _ _) _ _ _)); refine we_un ?_)
  | ((with_reducible refine (?_ : We _ (.Tuple _ _ _) _ _ _)); refine we_tup ?_)
  | ((with_reducible refine (?_ : We _ (.List _ _) _ _ _)); refine we_lst ?_)
  | ((with_reducible refine (?_ : Wa _ [] _ _ _)); refine wa_nil ?_)
  | ((with_reducible refine (?_ : Wa _ (_ :: _) _ _ _)); refine wa_cons ?_)
  | ((with_reducible refine (?_ : Wt _ (.Compare _ _ _ _) _ _ _)); refine wt_cmp rfl ?_)
  | ((with_reducible refine (?_ : Wt _ (.UnaryOp .Not _ _) _ _ _)); refine wt_not ?_)
  | ((with_reducible refine (?_ : Wt _ (.BoolOp _ _ _) _ _ _)); refine wt_bool ?_)
  | ((with_reducible refine (?_ : Ww _ (.BoolOp .And (_ :: _ :: _) _) _ _ _)); refine ww_and ?_)
  | ((with_reducible refine (?_ : Ww _ (.BoolOp .Or (_ :: _ :: _) _) _ _ _)); refine ww_or ?_)
  | ((with_reducible refine (?_ : Ww _ (.BoolOp .And _ _) _ _ _)); refine ww_and1 ?_)
  | ((with_reducible refine (?_ : Ww _ (.BoolOp .Or _ _) _ _ _)); refine ww_or1 ?_)
  | ((with_reducible refine (?_ : Wp _ none _ _ _)); refine wp_none ?_)
  | ((with_reducible refine (?_ : Wp _ (some _) _ _ _)); refine wp_some ?_)
  | ((with_reducible refine (?_ : Od _ (binaryOp .Add) _ _ _ _ _)); refine od_add ?_)
  | ((with_reducible refine (?_ : Od _ (binaryOp .Sub) _ _ _ _ _)); refine od_sub ?_)
  | ((with_reducible refine (?_ : Od _ (binaryOp .Mult) _ _ _ _ _)); refine od_mul ?_)
  | ((with_reducible refine (?_ : Od _ (binaryOp .FloorDiv) _ _ _ _ _)); refine od_fdiv ?_)
  | ((with_reducible refine (?_ : Od _ (binaryOp .Mod) _ _ _ _ _)); refine od_mod ?_)
  | ((with_reducible refine (?_ : Od _ (compareOp .Eq) _ _ _ _ _)); walk_at "oe")
  | ((with_reducible refine (?_ : Od _ (compareOp .NotEq) _ _ _ _ _)); walk_at "on")
  | ((with_reducible refine (?_ : Od _ (compareOp .Lt) _ _ _ _ _)); refine od_lt ?_)
  | ((with_reducible refine (?_ : Od _ (compareOp .LtE) _ _ _ _ _)); refine od_le ?_)
  | ((with_reducible refine (?_ : Od _ (compareOp .Gt) _ _ _ _ _)); refine od_gt ?_)
  | ((with_reducible refine (?_ : Od _ (compareOp .GtE) _ _ _ _ _)); refine od_ge ?_)
  | ((with_reducible refine (?_ : Od _ (compareOp .Is) _ _ _ _ _)); refine od_isN ?_)
  | ((with_reducible refine (?_ : Od _ (compareOp .IsNot) _ _ _ _ _)); refine od_isnotN ?_)
  | ((with_reducible refine (?_ : Ud _ _ _ _ _ _)); refine ud_neg ?_)
  | ((with_reducible refine (?_ : Cd _ (.type _) _ _ _ _)); walk_at "c")
  | ((with_reducible refine (?_ : Id _ _ _ (.dat (.tuple _)) _ _)); refine id_tup (by rfl) ?_)
  | ((with_reducible refine (?_ : ∃ k, Sl.dat (PyData.bool _) = Sl.dat (PyData.bool k) ∧ _)); refine ⟨_, rfl, ?_⟩)
  | ((with_reducible refine (?_ : ∃ i, Sl.dat (PyData.int _) = Sl.dat (PyData.int i) ∧ _)); refine ⟨_, rfl, ?_⟩)
  | ((with_reducible refine (?_ : ∃ ds, datsOf _ = some ds ∧ _ ∧ _)); refine ⟨_, rfl, Nat.le_of_ble_eq_true rfl, ?_⟩)
  | ((with_reducible refine (?_ : Id _ _ _ (.dat _) _ _)); refine id_tup (by rfl) ?_))
section
variable {P : Program} {w : World} {K : PySem.W.Frag} {mg : Str → Option Value} {base : Heap}
/-! ### standing -/
abbrev nSd : List Str := ["self"]
theorem fs_Sd : FnScope nSd ["self"] dStd.scope := ⟨rfl, rfl, rfl, by decide +kernel, rfl, by decide +kernel, by decide +kernel⟩
def sSd (K : PySem.W.Frag) : Spec HA where
  args := fun x => [.raw (.ref x.a)]
  pre := fun x => x.m.rows.length ≤ 24
  J := fun x => hsR K x x.m
  rt := fun x r J => r = dI x.m.rows.length
theorem c_Sd (T : Tx P K mg) : Prp P w K mg base 1 (hsC K) "standing" ((sSd K).sp K) := by
  obtain ⟨p, g, fd, hP, F⟩ := T.stand
  refine ⟨p, g, fd, ["self"], DL.fn_ok (sSd K) (N := nSd) F fs_Sd (fun _ => rfl) (fun _ => rfl) (by decide) (fun x cdv A0 outer s W0 E hr h24 => ?_), T.cls, hP, binds_of F (fun _ _ _ _ _ _ us h => match us, h with | [_], _ => rfl)⟩
  have h24 : x.m.rows.length ≤ 24 := h24
  refine wss_cons (ws_ret ?_)
  walk_at "w"
  refine we_fld (C := hsC _) (Tx.cls (by assumption)) (Tx.noat (by assumption)) ?_
  walk_at "w"
  refine ⟨_, _, _, rfl, hs_ins, rfl, ?_⟩
  walk_at "w"
  exact cd_len (d := rowsT x.m.rows) (n := x.m.rows.length) rfl (congrArg some (List.length_map _)) (by omega) rfl
theorem same_v {x : HA} {d : Deed} {v : PyData} (hd : deedOk d) (h : (stepH x d).1 = .ok v) : sameOk 3 v := by
  unfold stepH at h
  cases d with
  | undo =>
    simp only [stepP] at h
    split at h <;> (cases h; exact True.intro)
  | back k =>
    simp only [stepP] at h
    split at h
    · cases h
    · cases h; exact True.intro
  | see n c =>
    simp only [stepP] at h
    split at h
    · cases h
    · cases h; exact True.intro
  | late k n c =>
    simp only [stepP] at h
    split at h
    · cases h
    · split at h
      · cases h
      · cases h; exact True.intro
  | all n cs =>
    have hd : cs.length ≤ 1000 := hd
    simp only [stepP] at h
    split at h
    · split at h
      · cases h
      · cases h
        refine ⟨by rw [keys_len]; omega, fun z hz => ?_⟩
        obtain ⟨i, _, rfl⟩ := List.mem_map.mp hz
        exact True.intro
    · cases h
theorem same_two {n : Nat} {a b : PyData} (ha : sameOk n a) (hb : sameOk n b) : sameOk (n + 1) (.tuple [a, b]) := by
  refine ⟨by show (2 : Nat) ≤ 100000; decide, fun z hz => ?_⟩
  rcases List.mem_cons.mp hz with e | hz
  · subst e; exact ha
  · rw [List.mem_singleton.mp hz]; exact hb
theorem same_str {n : Nat} {z : Str} : sameOk n (.str z) := by cases n <;> exact True.intro
theorem same_int {n : Nat} {z : Int} : sameOk n (.int z) := by cases n <;> exact True.intro
theorem same_ref {n : Nat} (r : Ref) : sameOk n r.d := by cases r <;> first | exact same_str | exact same_int
theorem same_out {x : HA} {d : Deed} (hd : deedOk d) : sameOk 4 (outD (stepH x d).1) := by
  cases h : (stepH x d).1 with
  | ok v => exact same_two (n := 3) same_str (same_v hd h)
  | error r =>
    refine same_two (n := 3) same_str ⟨by show (1 : Nat) ≤ 100000; decide, fun z hz => ?_⟩
    rw [List.mem_singleton.mp hz]
    exact same_two (n := 1) same_str (same_ref r)
theorem same_list {n : Nat} {α : Type} (f : α → PyData) (hf : ∀ a, sameOk n (f a)) (xs : List α) (h : xs.length ≤ 100000) : sameOk (n + 1) (.tuple (xs.map f)) := ⟨by rw [List.length_map]; exact h, fun z hz => by
  obtain ⟨a, _, rfl⟩ := List.mem_map.mp hz
  exact hf a⟩
theorem same_three {n : Nat} {a b c : PyData} (ha : sameOk n a) (hb : sameOk n b) (hc : sameOk n c) : sameOk (n + 1) (.tuple [a, b, c]) := by
  refine ⟨by show (3 : Nat) ≤ 100000; decide, fun z hz => ?_⟩
  rcases List.mem_cons.mp hz with e | hz
  · subst e; exact ha
  rcases List.mem_cons.mp hz with e | hz
  · subst e; exact hb
  · rw [List.mem_singleton.mp hz]; exact hc
theorem same_ch {n : Nat} (c : Ch) : sameOk (n + 1) (chD c) := same_three same_int same_str same_int
theorem same_rows {rows : List Row} (h : rows.length ≤ 24) : sameOk 4 (rowsT rows) := same_list rowD (fun r => same_three (n := 2) same_int same_str (same_ch r.c)) rows (by omega)
theorem doM_call {x : HA} {z : Addr} {o : HO} {m : Hs} (q : doM x z o) : ((∃ ps, o = .tbl ps) ∧ doM x z o) ∨ ((doR K x m).fp z ∧ ((doR K x m).fp z → doM x z o)) := by
  rcases q with ⟨ps, e⟩ | h
  · exact .inl ⟨⟨ps, e⟩, .inl ⟨ps, e⟩⟩
  · exact .inr ⟨.inr h, fun _ => .inr h⟩
/-! ### _law_stands -/
abbrev nBk : List Str := ["house", "model", "world", "states", "acts", "names", "rows", "name"]
theorem fs_Bk : FnScope nBk ["house", "model", "world"] dStands.scope := ⟨rfl, rfl, rfl, by decide +kernel, rfl, by decide +kernel, by decide +kernel⟩
def worldD (x : HA) : PyData := .tuple [.int x.st, .tuple (x.acts.map actD), .tuple (x.names.map .str)]
def sBk (K : PySem.W.Frag) : Spec HA where
  args := fun x => [.raw (.ref x.a), .dat (modD x.m), .dat (worldD x)]
  pre := fun x => HaOk x
  J := fun x => hsR K x x.m
  rt := fun x r J => r = dB true
theorem b_Bk (T : Tx P K mg) : Body P w K mg base dStands nBk (sBk K) 11 := by
  rintro x cdv A0 outer s W0 E hr hx
  have hx : HaOk x := hx
  have nd := fs_Bk.nd
  have tk : Takes (actOf P w K mg base nBk dStands.qual dStands.scope (He.fAd K dStands.at_) cdv A0 outer s ((sBk K).md x) W0 E ((sBk K).ex x)).X fun cls d _ H => E cls d H := takes_of rfl rfl rfl rfl
  refine wss_cons (ws_asg ?_)
  walk_at "w"
  refine wg_tup (ds := [.int x.st, .tuple (x.acts.map actD), .tuple (x.names.map .str)]) rfl ?_
  refine wgs_cons (wg_name 3 ?_ nd)
  refine wgs_cons (wg_name 4 ?_ nd)
  refine wgs_cons (wg_name 5 ?_ nd)
  refine wgs_nil (wss_cons (ws_setI nd ?_))
  repeat walk_at "w"
  refine ⟨rfl, wss_cons (ws_if ?_)⟩
  have h24 := hx.hs.rows.len
  repeat walk_at "w"
  refine wt_val ?_
  refine we_call (c_Same T 4) hr (by decide) tk ?_
  walk_at "w"
  refine we_meth0 (c_He T) hr (by decide) tk ?_
  walk_at "w"
  refine ⟨rcv_J hs_ins rfl, ?_⟩
  refine ⟨x, rfl, rfl, True.intro, fun z o q => q, fun _ _ h => h, fun z h => h, fun r J' hh => ?_, fun e J' z => z.elim⟩
  have hh : r = .dat (rowsT x.m.rows) := hh
  subst hh
  repeat walk_at "w"
  refine ⟨rowsT x.m.rows, rfl, rfl, same_rows h24, fun z o q => q, fun _ _ _ => True.intro, fun z q => q.elim, fun r J' hh => ?_, fun e J' z => z.elim⟩
  have hh : r = dB true := hh
  subst hh
  refine ⟨true, rfl, iteF ?_⟩
  repeat walk_at "w"
  refine wt_val ?_
  refine we_call (c_Same T 4) hr (by decide) tk ?_
  walk_at "w"
  refine we_prop (C := hsC K) (c_Sd T) hr (by decide) (fun a e J' z => z) ?_
  walk_at "w"
  refine ⟨⟨"standing", rcv_J hs_ins rfl⟩, ?_⟩
  refine ⟨x, rfl, rfl, h24, fun z o q => q, fun _ _ h => h, fun z h => h, fun r J' hh => ?_, fun e J' z => z.elim⟩
  have hh : r = dI x.m.rows.length := hh
  subst hh
  repeat walk_at "w"
  refine cd_len (d := rowsL x.m.rows) (n := x.m.rows.length) rfl (congrArg some (List.length_map _)) (by omega) ?_
  walk_at "w"
  refine ⟨.int x.m.rows.length, rfl, rfl, same_int, fun z o q => q, fun _ _ _ => True.intro, fun z q => q.elim, fun r J' hh => ?_, fun e J' z => z.elim⟩
  have hh : r = dB true := hh
  subst hh
  refine ⟨true, rfl, iteF (wss_nil (wss_cons (ws_forT (passes_of rfl) rfl ?_)))⟩
  walk_at "w"
  refine ⟨_, rfl, fun k ρ' J' => J' = hsR K x x.m ∧ ∃ r, ρ' = [.raw (.ref x.a), .dat (modD x.m), .dat (worldD x), dI x.st, dT (x.acts.map actD), dT (x.names.map .str), .dat (rowsL x.m.rows), r], ⟨rfl, _, rfl⟩, ?_, ?_⟩
  · rintro k d ρ' J' hd ⟨rfl, r, rfl⟩
    rw [List.getElem?_map] at hd
    obtain ⟨name, hname, rfl⟩ := Option.map_eq_some_iff.mp hd
    have hn : name ∈ x.names := List.mem_of_getElem? hname
    refine wg_name 7 ?_ nd
    refine wss_cons (ws_if (wt_not (wt_val ?_)))
    refine we_call (c_Same T 4) hr (by decide) tk ?_
    walk_at "w"
    refine we_meth0 (c_BT T) hr (by decide) tk ?_
    refine we_meth (c_Hb T) hr (by decide) tk ?_
    walk_at "w"
    refine ⟨rcv_J hs_ins rfl, ?_⟩
    repeat walk_at "w"
    refine ⟨⟨x, name⟩, rfl, rfl, hx, fun z o q => q, fun _ _ h => h, fun z q => q, fun r J' hh => ?_, fun e J' hh => absurd hn hh.2.1⟩
    obtain ⟨_, rfl⟩ := hh
    refine ⟨rcv_F rfl, ⟨x.st, x.acts, seenOf x.m.rows name⟩, rfl, rfl, True.intro, fun z o q => q, fun _ _ _ => True.intro, fun z q => q.elim, fun r J' hh => ?_, fun e J' z => z.elim⟩
    obtain ⟨_, rfl⟩ := hh
    repeat walk_at "w"
    refine we_call (c_Sn T) hr (by decide) tk ?_
    repeat walk_at "w"
    refine ⟨⟨x.acts.length, x.m.rows, name⟩, rfl, rfl, hx.hs.rows, fun z o q => q, fun _ _ _ => True.intro, fun z q => q.elim, fun r J' hh => ?_, fun e J' z => z.elim⟩
    have hh : r = dL ((seenOf x.m.rows name).map chD) := hh
    subst hh
    repeat walk_at "w"
    have h8 := hx.hs.rows.few name
    refine ⟨bkD x.st x.acts (seenOf x.m.rows name), rfl, rfl, ?_, fun z o q => q, fun _ _ _ => True.intro, fun z q => q.elim, fun r J' hh => ?_, fun e J' z => z.elim⟩
    · have h5 := hx.acts.2.1
      have hact : ∀ act ∈ x.acts, sameOk 2 (actD act) := fun act ha => by
        obtain ⟨_, _, hl, _⟩ := hx.acts.2.2 act ha
        exact same_list (n := 1) PyData.int (fun _ => same_int) act (by omega)
      refine same_three (n := 3) same_int ⟨by rw [List.length_map]; omega, fun z hz => ?_⟩ (same_list chD (fun c => same_ch c) _ (by omega))
      obtain ⟨act, ha, rfl⟩ := List.mem_map.mp hz
      exact hact act ha
    have hh : r = dB true := hh
    subst hh
    exact ⟨true, rfl, iteF (wss_nil (wss_nil ⟨rfl, _, rfl⟩))⟩
  · rintro ρ' J' ⟨rfl, r, rfl⟩
    refine wss_cons (ws_ret ?_)
    walk_at "w"
    rfl
theorem c_Bk (T : Tx P K mg) : Cal P w K mg base 12 "_law_stands" ((sBk K).sp K) :=
  cal_of T (b_Bk T) rfl T.glo (by unfold fn; repeat (first | with_reducible exact List.Mem.head _ | apply List.Mem.tail)) rfl rfl fs_Bk (fun _ => rfl) (fun y => rfl) (by decide) (fun _ _ _ _ _ _ us h => match us, h with | [_, _, _], _ => rfl)
end
end KK

namespace KK
open PySem PySem.Spec PyProof.Rows L2 DL
local macro_rules | `(tactic| walk_at "v") => `(tactic| first
  | refine we_varI ?_
  | refine we_varOI ?_
  | ((with_reducible refine (?_ : We _ (.Name "int" _) _ _ _)); refine we_ty (Tx.f_int (by assumption)) boot_int' ?_)
  | ((with_reducible refine (?_ : We _ (.Name "bool" _) _ _ _)); refine we_ty (Tx.f_bool (by assumption)) boot_bool' ?_)
  | ((with_reducible refine (?_ : We _ (.Name "str" _) _ _ _)); refine we_ty (Tx.f_str (by assumption)) boot_str' ?_)
  | ((with_reducible refine (?_ : We _ (.Name "tuple" _) _ _ _)); refine we_ty (Tx.f_tuple (by assumption)) boot_tuple' ?_)
  | ((with_reducible refine (?_ : We _ (.Name "list" _) _ _ _)); refine we_ty (Tx.f_list (by assumption)) boot_list' ?_)
  | refine we_glob (Tx.int (by assumption)) (fun _ => .int _) ?_)
local macro_rules | `(tactic| walk_at "b") => `(tactic| first
  | ((with_reducible refine (?_ : We _ (.Call (.Name "len" _) _ _ _) _ _ _)); refine we_callB (Tx.f_len (by assumption)) boot_len ?_; refine wa_cons ?_)
  | ((with_reducible refine (?_ : We _ (.Call (.Name "isinstance" _) _ _ _) _ _ _)); refine we_callB (Tx.f_isinstance (by assumption)) DL.boot_isinstance ?_; refine wa_cons ?_)
  | ((with_reducible refine (?_ : We _ (.Call (.Name "max" _) _ _ _) _ _ _)); refine we_callB (Tx.f_max (by assumption)) boot_max' ?_; refine wa_cons ?_)
  | ((with_reducible refine (?_ : We _ (.Call (.Name "min" _) _ _ _) _ _ _)); refine we_callB (Tx.f_min (by assumption)) boot_min' ?_; refine wa_cons ?_)
  | ((with_reducible refine (?_ : We _ (.Call (.Name "int" _) _ _ _) _ _ _)); refine we_callTy (Tx.f_int (by assumption)) boot_int' ?_; refine wa_cons ?_)
  | ((with_reducible refine (?_ : We _ (.Call (.Name "tuple" _) _ _ _) _ _ _)); refine we_callTy (Tx.f_tuple (by assumption)) boot_tuple' ?_; refine wa_cons ?_)
  | ((with_reducible refine (?_ : We _ (.Call (.Name "list" _) _ _ _) _ _ _)); refine we_callTy (Tx.f_list (by assumption)) boot_list' ?_; refine wa_cons ?_))
local macro_rules | `(tactic| walk_at "k") => `(tactic| first | refine we_int ?_ | refine we_str ?_ | refine we_bl ?_ | refine we_non ?_)
local macro_rules | `(tactic| walk_at "o+") => `(tactic| first | refine od_add ?_)
local macro_rules | `(tactic| walk_at "oe") => `(tactic| first | refine od_eqI ?_ | refine od_eqS ?_)
local macro_rules | `(tactic| walk_at "on") => `(tactic| first | refine od_neI ?_ | refine od_neS ?_)
local macro_rules | `(tactic| walk_at "c") => `(tactic| first | refine cd_int ?_ | refine cd_tup rfl ?_ | refine cd_tupT ?_ | refine cd_lst rfl ?_ | refine cd_lstT ?_)
local macro_rules | `(tactic| walk_at "w") => `(tactic| first
  | ((with_reducible refine (?_ : We _ (.Name _ _) _ _ _)); walk_at "v")
  | ((with_reducible refine (?_ : We _ (.Constant _ _ _) _ _ _)); walk_at "k")
  | ((with_reducible refine (?_ : We _ (.Subscript _ (.Slice _ _ _ _) _) _ _ _)); refine we_slice ?_)
  | ((with_reducible refine (?_ : We _ (.Subscript _ _ _) _ _ _)); refine we_ix (fun _ _ => rfl) ?_)
  | ((with_reducible refine (?_ : We _ (.Call _ _ _ _) _ _ _)); walk_at "b")
  | ((with_reducible refine (?_ : We _ (.BinOp _ _ _ _) _ _ _)); refine we_bin ?_)
  | ((with_reducible refine (?_ : We _ (.Compare _ _ _ _) _ _ _)); refine we_cmp rfl ?_)
  | ((with_reducible refine (?_ : We _ (.UnaryOp .USub _ _) _ _ _)); refine we_un ?_)
  | ((with_reducible refine (?_ : We _ (.Tuple _ _ _) _ _ _)); refine we_tup ?_)
  | ((with_reducible refine (?_ : We _ (.List _ _) _ _ _)); refine we_lst ?_)
  | ((with_reducible refine (?_ : Wa _ [] _ _ _)); refine wa_nil ?_)
  | ((with_reducible refine (?_ : Wa _ (_ :: _) _ _ _)); refine wa_cons ?_)
  | ((with_reducible refine (?_ : Wt _ (.Compare _ _ _ _) _ _ _)); refine wt_cmp rfl ?_)
  | ((with_reducible refine (?_ : Wt _ (.UnaryOp .Not _ _) _ _ _)); refine wt_not ?_)
  | ((with_reducible refine (?_ : Wt _ (.BoolOp _ _ _) _ _ _)); refine wt_bool ?_)
  | ((with_reducible refine (?_ : Ww _ (.BoolOp .And (_ :: _ :: _) _) _ _ _)); refine ww_and ?_)
  | ((with_reducible refine (?_ : Ww _ (.BoolOp .Or (_ :: _ :: _) _) _ _ _)); refine ww_or ?_)
  | ((with_reducible refine (?_ : Ww _ (.BoolOp .And _ _) _ _ _)); refine ww_and1 ?_)
  | ((with_reducible refine (?_ : Ww _ (.BoolOp .Or _ _) _ _ _)); refine ww_or1 ?_)
  | ((with_reducible refine (?_ : Wp _ none _ _ _)); refine wp_none ?_)
  | ((with_reducible refine (?_ : Wp _ (some _) _ _ _)); refine wp_some ?_)
  | ((with_reducible refine (?_ : Od _ (binaryOp .Add) _ _ _ _ _)); refine od_add ?_)
  | ((with_reducible refine (?_ : Od _ (binaryOp .Sub) _ _ _ _ _)); refine od_sub ?_)
  | ((with_reducible refine (?_ : Od _ (binaryOp .Mult) _ _ _ _ _)); refine od_mul ?_)
  | ((with_reducible refine (?_ : Od _ (binaryOp .FloorDiv) _ _ _ _ _)); refine od_fdiv ?_)
  | ((with_reducible refine (?_ : Od _ (binaryOp .Mod) _ _ _ _ _)); refine od_mod ?_)
  | ((with_reducible refine (?_ : Od _ (compareOp .Eq) _ _ _ _ _)); walk_at "oe")
  | ((with_reducible refine (?_ : Od _ (compareOp .NotEq) _ _ _ _ _)); walk_at "on")
  | ((with_reducible refine (?_ : Od _ (compareOp .Lt) _ _ _ _ _)); refine od_lt ?_)
  | ((with_reducible refine (?_ : Od _ (compareOp .LtE) _ _ _ _ _)); refine od_le ?_)
  | ((with_reducible refine (?_ : Od _ (compareOp .Gt) _ _ _ _ _)); refine od_gt ?_)
  | ((with_reducible refine (?_ : Od _ (compareOp .GtE) _ _ _ _ _)); refine od_ge ?_)
  | ((with_reducible refine (?_ : Od _ (compareOp .Is) _ _ _ _ _)); refine od_isN ?_)
  | ((with_reducible refine (?_ : Od _ (compareOp .IsNot) _ _ _ _ _)); refine od_isnotN ?_)
  | ((with_reducible refine (?_ : Ud _ _ _ _ _ _)); refine ud_neg ?_)
  | ((with_reducible refine (?_ : Cd _ (.type _) _ _ _ _)); walk_at "c")
  | ((with_reducible refine (?_ : Id _ _ _ (.dat (.tuple _)) _ _)); refine id_tup (by rfl) ?_)
  | ((with_reducible refine (?_ : ∃ k, Sl.dat (PyData.bool _) = Sl.dat (PyData.bool k) ∧ _)); refine ⟨_, rfl, ?_⟩)
  | ((with_reducible refine (?_ : ∃ i, Sl.dat (PyData.int _) = Sl.dat (PyData.int i) ∧ _)); refine ⟨_, rfl, ?_⟩)
  | ((with_reducible refine (?_ : ∃ ds, datsOf _ = some ds ∧ _ ∧ _)); refine ⟨_, rfl, Nat.le_of_ble_eq_true rfl, ?_⟩)
  | ((with_reducible refine (?_ : Id _ _ _ (.dat _) _ _)); refine id_tup (by rfl) ?_))
section
variable {P : Program} {w : World} {K : PySem.W.Frag} {mg : Str → Option Value} {base : Heap}
/-! ### law -/
structure ModOk (many : Int) (m : Hs) (n : Nat) : Prop where
  hs : HsOk many m
  last : 0 ≤ m.last
  past : m.past.length ≤ n
  chain : (m.past ++ [m.rows])[0]? = some []
theorem chain_add {past : List (List Row)} {rows rows' : List Row} (h : (past ++ [rows])[0]? = some []) : (past ++ [rows] ++ [rows'])[0]? = some [] := by
  rw [List.getElem?_append_left (by rw [List.length_append]; exact Nat.succ_pos _)]
  exact h
theorem chain_undo {past : List (List Row)} {rows rs : List Row} (h : (past ++ [rows])[0]? = some []) (hl : past.getLast? = some rs) : (past.dropLast ++ [rs])[0]? = some [] := by
  obtain ⟨pre, e⟩ := List.getLast?_eq_some_iff.mp hl
  subst e
  rw [List.dropLast_concat]
  rw [List.getElem?_append_left (by rw [List.length_append]; exact Nat.succ_pos _)] at h
  exact h
theorem ModOk.step {names : List Str} {many : Int} {m : Hs} {n : Nat} (h : ModOk many m n) (d : Deed) : ModOk many (stepP names many m d).2 (n + 1) := by
  refine ⟨stepP_ok h.hs d, ?_, Nat.le_trans stepP_past (Nat.succ_le_succ h.past), ?_⟩
  · have hl := h.last
    cases d with
    | undo => simp only [stepP]; split <;> exact hl
    | back k => simp only [stepP]; split <;> exact hl
    | see n c =>
      simp only [stepP]
      split
      · exact hl
      · show 0 ≤ m.last + 1; omega
    | late k n c =>
      simp only [stepP]
      split
      · exact hl
      · split
        · exact hl
        · show 0 ≤ m.last + 1; omega
    | all n cs =>
      simp only [stepP]
      split
      · split
        · exact hl
        · show 0 ≤ m.last + (cs.length : Int); omega
      · exact hl
  · have hc := h.chain
    cases d with
    | undo =>
      simp only [stepP]
      split
      · exact hc
      · rename_i rs e; exact chain_undo hc e
    | back k => simp only [stepP]; split <;> first | exact hc | exact chain_add hc
    | see n c => simp only [stepP]; split <;> first | exact hc | exact chain_add hc
    | late k n c =>
      simp only [stepP]
      split
      · exact hc
      · split <;> first | exact hc | exact chain_add hc
    | all n cs =>
      simp only [stepP]
      split
      · split <;> first | exact hc | exact chain_add hc
      · exact hc
theorem ModOk.mono {many : Int} {m : Hs} {n k : Nat} (h : ModOk many m n) (hk : n ≤ k) : ModOk many m k := ⟨h.hs, h.last, Nat.le_trans h.past hk, h.chain⟩
theorem undo_past {names : List Str} {many : Int} {m : Hs} : (stepP names many m .undo).2.past.length = m.past.length - 1 := by
  simp only [stepP]
  split
  · rename_i e
    rw [List.getLast?_eq_none_iff] at e
    show m.past.length = _
    rw [e]; rfl
  · show m.past.dropLast.length = _
    rw [List.length_dropLast]
theorem ModOk.fold {names : List Str} {many : Int} : ∀ (ds : List Deed) {m : Hs} {n : Nat}, ModOk many m n → ModOk many (ds.foldl (fun m d => (stepP names many m d).2) m) (n + ds.length)
  | [], m, n, h => h
  | d :: ds, m, n, h => by
    have := ModOk.fold ds (names := names) (h.step (names := names) d)
    show ModOk many (List.foldl _ _ ds) (n + (ds.length + 1))
    have e : n + 1 + ds.length = n + (ds.length + 1) := by omega
    rw [← e]; exact this
theorem refusal_none {rows : List Row} {names : List Str} {many : Int} {n : Str} {c : Ch} (hn : n ∈ names) (hl : rows.length < 2) (hg : good c many = true) : refusal rows names many n c = none := by
  unfold refusal
  rw [if_pos hn, if_pos (by omega), if_pos hg]
  split
  · rfl
  · have h1 := dedup_len (chs rows n)
    have h2 := chs_len rows n
    have h3 : (seenOf rows n).length ≤ 1 := by show (dedup (chs rows n)).length ≤ 1; omega
    rw [if_neg (by omega)]
theorem repS_len (z : Str) (n : Int) : (repS z n).length ≤ n.toNat * z.length := by
  unfold repS
  split
  · exact Nat.zero_le _
  · split
    · rename_i h1 h2
      rcases (Bool.or_eq_true_iff.mp h2) with h | h
      · have e : n = 1 := eq_of_beq h
        subst e
        show z.length ≤ 1 * z.length
        omega
      · have e : z.length = 0 := eq_of_beq h
        rw [e]
        exact Nat.zero_le _
    · show ((List.replicate n.toNat z.cps).foldl (· ++ ·) #[]).size ≤ _
      rw [rep_size]
      show 0 + n.toNat * z.cps.size ≤ _
      rw [Nat.zero_add]
      exact Nat.le_refl _
/-- a list of known choices is added whole -/
def rowsFrom (L : Int) (name : Str) : List Ch → Nat → List Row
  | [], _ => []
  | c :: cs, n => ⟨L + n + 1, name, c⟩ :: rowsFrom L name cs (n + 1)
theorem refusal_few {rows : List Row} {names : List Str} {many : Int} {n : Str} {c : Ch} (hn : n ∈ names) (hl : rows.length < 24) (hg : good c many = true) (h8 : (seenOf rows n).length < 8) : refusal rows names many n c = none := by
  unfold refusal
  rw [if_pos hn, if_pos hl, if_pos hg]
  split
  · rfl
  · rw [if_neg (by omega)]
theorem addAll_whole {names : List Str} {many : Int} {name : Str} {L : Int} (hn : name ∈ names) : ∀ (cs : List Ch) (rows : List Row) (n : Nat), (∀ c ∈ cs, good c many = true) → rows.length + cs.length ≤ 8 → addAll names many name L cs rows n = .ok (rows ++ rowsFrom L name cs n)
  | [], rows, n, _, _ => by
    show Except.ok rows = Except.ok (rows ++ [])
    rw [List.append_nil]
  | c :: cs, rows, n, hg, hl => by
    have hl : rows.length + (cs.length + 1) ≤ 8 := hl
    have h1 := dedup_len (chs rows name)
    have h2 := chs_len rows name
    have h3 : (seenOf rows name).length < 8 := by show (dedup (chs rows name)).length < 8; omega
    unfold addAll
    rw [refusal_few hn (by omega) (hg c List.mem_cons_self) h3]
    show addAll names many name L cs (rows ++ [⟨L + n + 1, name, c⟩]) (n + 1) = _
    rw [addAll_whole hn cs _ (n + 1) (fun x hx => hg x (List.mem_cons_of_mem _ hx)) (by rw [List.length_append]; show rows.length + 1 + cs.length ≤ 8; omega), List.append_assoc]
    rfl
theorem rowsFrom_map (L : Int) (name : Str) (f : Nat → Ch) : ∀ (k n : Nat), rowsFrom L name ((List.range k).map fun j => f (n + j)) n = (List.range k).map fun (j : Nat) => (⟨L + ((n + j : Nat) : Int) + 1, name, f (n + j)⟩ : Row)
  | 0, n => rfl
  | k + 1, n => by
    rw [List.range_succ_eq_map, List.map_cons, List.map_map, List.map_cons, List.map_map]
    show (⟨L + n + 1, name, f (n + 0)⟩ : Row) :: rowsFrom L name _ (n + 1) = _
    have e : ((fun j => f (n + j)) ∘ Nat.succ) = fun j => f (n + 1 + j) := by
      funext j
      show f (n + (j + 1)) = f (n + 1 + j)
      congr 1; omega
    rw [e, rowsFrom_map L name f k (n + 1)]
    congr 1
    refine List.map_congr_left fun j _ => ?_
    show (⟨L + ((n + 1 + j : Nat) : Int) + 1, name, f (n + 1 + j)⟩ : Row) = ⟨L + ((n + (j + 1) : Nat) : Int) + 1, name, f (n + (j + 1))⟩
    have e2 : n + 1 + j = n + (j + 1) := by omega
    rw [e2]
abbrev nLw : List Str := ["script", "numbers", "states", "many", "acts", "k", "names", "world", "house", "start", "known", "more", "first", "deeds", "at", "name", "way", "unknown", "spot", "model", "deed", "due", "later", "last", "s", "one"]
theorem fs_Lw : FnScope nLw ["script"] dLaw.scope := ⟨rfl, rfl, rfl, by decide +kernel, rfl, by decide +kernel, by decide +kernel⟩
def sLw (K : PySem.W.Frag) : Spec (List Int) where
  args := fun ns => [dL (ns.map .int)]
  pre := fun ns => ns.length ≤ 63
  J := fun ns => Res.tabs (tabT K)
  M := fun ns z o => ∃ ps, o = .tbl ps
  rt := fun ns r J => r = dB true
abbrev withM (x : HA) (m : Hs) : HA := ⟨x.a, x.p, x.st, x.acts, x.names, m⟩
theorem haOk_of {x : HA} {m : Hs} {n : Nat} (ha : actsOk x.acts x.st) (hn : namesOk x.names) (h : ModOk x.acts.length m n) (hb : n ≤ 9000) : HaOk (withM x m) := ⟨ha, by have := hn.2.1; show x.names.length ≤ 1000; omega, h.hs, by have := h.past; show m.past.length ≤ 10000; omega⟩
theorem mod0 (many : Int) : ModOk many ⟨[], 0, []⟩ 0 := ⟨⟨RowsOk.nil, fun rs h => absurd h List.not_mem_nil⟩, Int.le_refl _, Nat.le_refl _, rfl⟩
theorem lwM {x : HA} {z : Addr} {o : HO} {m : Hs} {ns : List Int} (q : doM x z o) : ((∃ ps, o = .tbl ps) ∧ (sLw K).M ns z o) ∨ ((doR K x m).fp z ∧ (((sLw K).J ns).fp z → (sLw K).M ns z o)) := by
  rcases q with h | h
  · exact .inl ⟨h, h⟩
  · exact .inr ⟨.inr h, fun z => z.elim⟩
end
end KK

namespace KK
open PySem PySem.Spec PyProof.Rows L2 DL
local macro_rules | `(tactic| walk_at "v") => `(tactic| first
  | refine we_varI ?_
  | refine we_varOI ?_
  | ((with_reducible refine (?_ : We _ (.Name "int" _) _ _ _)); refine we_ty (Tx.f_int (by assumption)) boot_int' ?_)
  | ((with_reducible refine (?_ : We _ (.Name "bool" _) _ _ _)); refine we_ty (Tx.f_bool (by assumption)) boot_bool' ?_)
  | ((with_reducible refine (?_ : We _ (.Name "str" _) _ _ _)); refine we_ty (Tx.f_str (by assumption)) boot_str' ?_)
  | ((with_reducible refine (?_ : We _ (.Name "tuple" _) _ _ _)); refine we_ty (Tx.f_tuple (by assumption)) boot_tuple' ?_)
  | ((with_reducible refine (?_ : We _ (.Name "list" _) _ _ _)); refine we_ty (Tx.f_list (by assumption)) boot_list' ?_)
  | refine we_glob (Tx.int (by assumption)) (fun _ => .int _) ?_)
local macro_rules | `(tactic| walk_at "b") => `(tactic| first
  | ((with_reducible refine (?_ : We _ (.Call (.Name "len" _) _ _ _) _ _ _)); refine we_callB (Tx.f_len (by assumption)) boot_len ?_; refine wa_cons ?_)
  | ((with_reducible refine (?_ : We _ (.Call (.Name "isinstance" _) _ _ _) _ _ _)); refine we_callB (Tx.f_isinstance (by assumption)) DL.boot_isinstance ?_; refine wa_cons ?_)
  | ((with_reducible refine (?_ : We _ (.Call (.Name "max" _) _ _ _) _ _ _)); refine we_callB (Tx.f_max (by assumption)) boot_max' ?_; refine wa_cons ?_)
  | ((with_reducible refine (?_ : We _ (.Call (.Name "min" _) _ _ _) _ _ _)); refine we_callB (Tx.f_min (by assumption)) boot_min' ?_; refine wa_cons ?_)
  | ((with_reducible refine (?_ : We _ (.Call (.Name "int" _) _ _ _) _ _ _)); refine we_callTy (Tx.f_int (by assumption)) boot_int' ?_; refine wa_cons ?_)
  | ((with_reducible refine (?_ : We _ (.Call (.Name "tuple" _) _ _ _) _ _ _)); refine we_callTy (Tx.f_tuple (by assumption)) boot_tuple' ?_; refine wa_cons ?_)
  | ((with_reducible refine (?_ : We _ (.Call (.Name "list" _) _ _ _) _ _ _)); refine we_callTy (Tx.f_list (by assumption)) boot_list' ?_; refine wa_cons ?_))
local macro_rules | `(tactic| walk_at "k") => `(tactic| first | refine we_int ?_ | refine we_str ?_ | refine we_bl ?_ | refine we_non ?_)
local macro_rules | `(tactic| walk_at "o+") => `(tactic| first | refine od_add ?_)
local macro_rules | `(tactic| walk_at "oe") => `(tactic| first | refine od_eqI ?_ | refine od_eqS ?_)
local macro_rules | `(tactic| walk_at "on") => `(tactic| first | refine od_neI ?_ | refine od_neS ?_)
local macro_rules | `(tactic| walk_at "c") => `(tactic| first | refine cd_int ?_ | refine cd_tup rfl ?_ | refine cd_tupT ?_ | refine cd_lst rfl ?_ | refine cd_lstT ?_)
local macro_rules | `(tactic| walk_at "w") => `(tactic| first
  | ((with_reducible refine (?_ : We _ (.Name _ _) _ _ _)); walk_at "v")
  | ((with_reducible refine (?_ : We _ (.Constant _ _ _) _ _ _)); walk_at "k")
  | ((with_reducible refine (?_ : We _ (.Subscript _ (.Slice _ _ _ _) _) _ _ _)); refine we_slice ?_)
  | ((with_reducible refine (?_ : We _ (.Subscript _ _ _) _ _ _)); refine we_ix (fun _ _ => rfl) ?_)
  | ((with_reducible refine (?_ : We _ (.Call _ _ _ _) _ _ _)); walk_at "b")
  | ((with_reducible refine (?_ : We _ (.BinOp _ _ _ _) _ _ _)); refine we_bin ?_)
  | ((with_reducible refine (?_ : We _ (.Compare _ _ _ _) _ _ _)); refine we_cmp rfl ?_)
  | ((with_reducible refine (?_ : We _ (.UnaryOp .USub _ _) _ _ _)); refine we_un ?_)
  | ((with_reducible refine (?_ : We _ (.Tuple _ _ _) _ _ _)); refine we_tup ?_)
  | ((with_reducible refine (?_ : We _ (.List _ _) _ _ _)); refine we_lst ?_)
  | ((with_reducible refine (?_ : Wa _ [] _ _ _)); refine wa_nil ?_)
  | ((with_reducible refine (?_ : Wa _ (_ :: _) _ _ _)); refine wa_cons ?_)
  | ((with_reducible refine (?_ : Wt _ (.Compare _ _ _ _) _ _ _)); refine wt_cmp rfl ?_)
  | ((with_reducible refine (?_ : Wt _ (.UnaryOp .Not _ _) _ _ _)); refine wt_not ?_)
  | ((with_reducible refine (?_ : Wt _ (.BoolOp _ _ _) _ _ _)); refine wt_bool ?_)
  | ((with_reducible refine (?_ : Ww _ (.BoolOp .And (_ :: _ :: _) _) _ _ _)); refine ww_and ?_)
  | ((with_reducible refine (?_ : Ww _ (.BoolOp .Or (_ :: _ :: _) _) _ _ _)); refine ww_or ?_)
  | ((with_reducible refine (?_ : Ww _ (.BoolOp .And _ _) _ _ _)); refine ww_and1 ?_)
  | ((with_reducible refine (?_ : Ww _ (.BoolOp .Or _ _) _ _ _)); refine ww_or1 ?_)
  | ((with_reducible refine (?_ : Wp _ none _ _ _)); refine wp_none ?_)
  | ((with_reducible refine (?_ : Wp _ (some _) _ _ _)); refine wp_some ?_)
  | ((with_reducible refine (?_ : Od _ (binaryOp .Add) _ _ _ _ _)); refine od_add ?_)
  | ((with_reducible refine (?_ : Od _ (binaryOp .Sub) _ _ _ _ _)); refine od_sub ?_)
  | ((with_reducible refine (?_ : Od _ (binaryOp .Mult) _ _ _ _ _)); refine od_mul ?_)
  | ((with_reducible refine (?_ : Od _ (binaryOp .FloorDiv) _ _ _ _ _)); refine od_fdiv ?_)
  | ((with_reducible refine (?_ : Od _ (binaryOp .Mod) _ _ _ _ _)); refine od_mod ?_)
  | ((with_reducible refine (?_ : Od _ (compareOp .Eq) _ _ _ _ _)); walk_at "oe")
  | ((with_reducible refine (?_ : Od _ (compareOp .NotEq) _ _ _ _ _)); walk_at "on")
  | ((with_reducible refine (?_ : Od _ (compareOp .Lt) _ _ _ _ _)); refine od_lt ?_)
  | ((with_reducible refine (?_ : Od _ (compareOp .LtE) _ _ _ _ _)); refine od_le ?_)
  | ((with_reducible refine (?_ : Od _ (compareOp .Gt) _ _ _ _ _)); refine od_gt ?_)
  | ((with_reducible refine (?_ : Od _ (compareOp .GtE) _ _ _ _ _)); refine od_ge ?_)
  | ((with_reducible refine (?_ : Od _ (compareOp .Is) _ _ _ _ _)); refine od_isN ?_)
  | ((with_reducible refine (?_ : Od _ (compareOp .IsNot) _ _ _ _ _)); refine od_isnotN ?_)
  | ((with_reducible refine (?_ : Ud _ _ _ _ _ _)); refine ud_neg ?_)
  | ((with_reducible refine (?_ : Cd _ (.type _) _ _ _ _)); walk_at "c")
  | ((with_reducible refine (?_ : Id _ _ _ (.dat (.tuple _)) _ _)); refine id_tup (by rfl) ?_)
  | ((with_reducible refine (?_ : ∃ k, Sl.dat (PyData.bool _) = Sl.dat (PyData.bool k) ∧ _)); refine ⟨_, rfl, ?_⟩)
  | ((with_reducible refine (?_ : ∃ i, Sl.dat (PyData.int _) = Sl.dat (PyData.int i) ∧ _)); refine ⟨_, rfl, ?_⟩)
  | ((with_reducible refine (?_ : ∃ ds, datsOf _ = some ds ∧ _ ∧ _)); refine ⟨_, rfl, Nat.le_of_ble_eq_true rfl, ?_⟩)
  | ((with_reducible refine (?_ : Id _ _ _ (.dat _) _ _)); refine id_tup (by rfl) ?_))
section
variable {P : Program} {w : World} {K : PySem.W.Frag} {mg : Str → Option Value} {base : Heap}
theorem b_Lw (T : Tx P K mg) (B : Bx P w K mg base) : Body P w K mg base dLaw nLw (sLw K) 19 := by
  rintro sc cdv A0 outer s W0 E hr hsc
  have hsc : sc.length ≤ 63 := hsc
  have nd := fs_Lw.nd
  have tk : Takes (actOf P w K mg base nLw dLaw.qual dLaw.scope (He.fAd K dLaw.at_) cdv A0 outer s ((sLw K).md sc) W0 E ((sLw K).ex sc)).X fun cls d _ H => E cls d H := takes_of rfl rfl rfl rfl
  generalize hA : (actOf P w K mg base nLw dLaw.qual dLaw.scope (He.fAd K dLaw.at_) cdv A0 outer s ((sLw K).md sc) W0 E ((sLw K).ex sc)) = A at *
  -- numbers
  subst hA
  refine wss_cons (ws_setI nd (we_call (c_Nm T) hr (by decide) tk ?_))
  repeat walk_at "w"
  refine ⟨⟨sc, 110⟩, rfl, rfl, ⟨by show sc.length ≤ 1000; omega, by show (110 : Nat) ≤ 10000; decide⟩, fun z o q => q, fun _ _ _ => True.intro, fun z q => q.elim, fun r J' hh => ?_, fun e J' z => z.elim⟩
  obtain ⟨ns, rfl, hlen, hn⟩ := hh
  have hlen : ns.length = 110 := hlen
  obtain ⟨n0, e0, g0, g0'⟩ := num_at hn (i := 0) (by omega) (by omega)
  obtain ⟨n1, e1, g1, g1'⟩ := num_at hn (i := 1) (by omega) (by omega)
  obtain ⟨n2, e2, g2, g2'⟩ := num_at hn (i := 2) (by omega) (by omega)
  obtain ⟨n3, e3, g3, g3'⟩ := num_at hn (i := 3) (by omega) (by omega)
  obtain ⟨n12, e12, g12, g12'⟩ := num_at hn (i := 12) (by omega) (by omega)
  obtain ⟨n13, e13, g13, g13'⟩ := num_at hn (i := 13) (by omega) (by omega)
  obtain ⟨n14, e14, g14, g14'⟩ := num_at hn (i := 14) (by omega) (by omega)
  obtain ⟨n15, e15, g15, g15'⟩ := num_at hn (i := 15) (by omega) (by omega)
  refine ⟨rfl, wss_cons (ws_setI nd ?_)⟩
  repeat walk_at "w"
  refine id_lst rfl e0 ?_
  repeat walk_at "w"
  obtain ⟨s1, s2⟩ := mod_in n0 (m := 4) (by decide)
  generalize n0 % 4 = st0 at s1 s2
  refine ⟨rfl, wss_cons (ws_setI nd ?_)⟩
  repeat walk_at "w"
  refine id_lst rfl e1 ?_
  repeat walk_at "w"
  obtain ⟨m1, m2⟩ := mod_in n1 (m := 3) (by decide)
  generalize n1 % 3 = mn0 at m1 m2
  refine ⟨rfl, wss_cons (ws_setI nd ?_)⟩
  repeat walk_at "w"
  refine ⟨rfl, wss_cons ?_⟩
  refine ws_forR (passes_of rfl) rfl T.free ?_
  walk_at "w"
  refine ⟨_, rfl, by omega, by omega, fun k ρ' J' => J' = Res.tabs (tabT K) ∧ ∃ (as : List (List Int)) (r5 : Sl), as.length = k ∧ (∀ a ∈ as, actOk a (1 + st0)) ∧ ρ' = [dL (sc.map .int), dL (ns.map .int), dI (1 + st0), dI (3 + mn0), .own (as.map actD), r5, .un, .un, .un, .un, .un, .un, .un, .un, .un, .un, .un, .un, .un, .un, .un, .un, .un, .un, .un, .un],
    ⟨rfl, [], _, rfl, (fun a ha => absurd ha List.not_mem_nil), rfl⟩, ?_, ?_⟩
  · rintro k ρ' J' hk ⟨rfl, as, r5, hal, hao, rfl⟩
    refine wg_name 5 ?_ nd
    refine wss_cons (ws_append 4 ?_)
    walk_at "w"
    refine we_lcR [("s", 24)] rfl nd T.free ?_ (ok := blkOk_by (N := nLw) (sc := dLaw.scope) (by decide +kernel))
    walk_at "w"
    refine ⟨_, rfl, by omega, by omega, fun i acc => ∃ vs : List Int, vs.length = i ∧ (∀ v ∈ vs, -99 ≤ v ∧ v ≤ 99) ∧ acc = vs.map .int, ⟨[], rfl, (fun v hv => absurd hv List.not_mem_nil), rfl⟩, ?_, ?_⟩
    · rintro i acc hi ⟨vs, hv1, hv2, rfl⟩
      obtain ⟨v1, v2⟩ := mod_in (n2 * ((k : Int) + 2) + 31 * i) (m := 199) (by decide)
      refine ⟨[dL (sc.map .int), dL (ns.map .int), dI (1 + st0), dI (3 + mn0), .own (as.map actD), dI k, .un, .un, .un, .un, .un, .un, .un, .un, .un, .un, .un, .un, .un, .un, .un, .un, .un, .un, dI i, .un], true, fun s H C cl fp D => wgc_name 24 rfl nd, fun s H C cl fp D => rfl, ?_⟩
      refine iteT ⟨.int ((n2 * ((k : Int) + 2) + 31 * i) % 199 - 99), ?_, ⟨vs ++ [(n2 * ((k : Int) + 2) + 31 * i) % 199 - 99], ?_, fun v hv => ?_, ?_⟩, fun s H C cl fp D => ?_⟩
      · rw [List.length_map, hv1]; omega
      · rw [List.length_append, hv1]; rfl
      · rcases List.mem_append.mp hv with h | h
        · exact hv2 v h
        · rw [List.mem_singleton.mp h]; omega
      · rw [List.map_append]; rfl
      · repeat walk_at "w"
        refine id_lst rfl e2 ?_
        repeat walk_at "w"
        rfl
    · rintro acc ⟨vs, hv1, hv2, rfl⟩
      repeat walk_at "w"
      refine ⟨_, rfl, by rw [List.length_map]; omega, wss_nil ⟨rfl, as ++ [vs], dI k, ?_, fun a ha => ?_, ?_⟩⟩
      · rw [List.length_append, hal]; rfl
      · rcases List.mem_append.mp ha with h | h
        · exact hao a h
        · rw [List.mem_singleton.mp h]
          refine ⟨by omega, fun z => ?_, by omega, hv2⟩
          rw [z] at hv1
          have : (0 : Nat) = (1 + st0).toNat := hv1
          omega
      · rw [List.map_append]; rfl
  rintro ρ' J' ⟨rfl, as, r5, hal, hao, rfl⟩
  have hal2 : (as.length : Int) = 3 + mn0 := by omega
  have hacts : actsOk as (1 + st0) := ⟨by omega, by omega, hao⟩
  have hmany : 3 ≤ as.length ∧ as.length ≤ 5 := by omega
  rw [← hal2]
  -- names
  refine wss_cons (ws_setI nd (we_call (c_Ns T) hr (by decide) tk ?_))
  repeat walk_at "w"
  refine ⟨⟨ns, 4⟩, rfl, rfl, ⟨hn, by show 4 + 10 ≤ ns.length; omega⟩, fun z o q => q, fun _ _ _ => True.intro, fun z q => q.elim, fun r J' hh => ?_, fun e J' z => z.elim⟩
  obtain ⟨names, rfl, hnames⟩ := hh
  have hnl := hnames.1
  have hn0 : atI (names.map PyData.str) 0 = some (.str names[0]) := atI_nat (j := 0) (by rw [List.getElem?_map, List.getElem?_eq_getElem (by omega)]; rfl)
  have hn1 : atI (names.map PyData.str) 1 = some (.str names[1]) := atI_nat (j := 1) (by rw [List.getElem?_map, List.getElem?_eq_getElem (by omega)]; rfl)
  have hm0 : names[0] ∈ names := List.getElem_mem _
  have hm1 : names[1] ∈ names := List.getElem_mem _
  generalize names[0] = na at hn0 hm0
  generalize names[1] = nb at hn1 hm1
  refine ⟨rfl, wss_frz 4 (wss_cons (ws_setI nd ?_))⟩
  repeat walk_at "w"
  refine ⟨rfl, wss_cons (ws_setJ 8 (wj_out (wj_make (c_Hi T) hr (by decide) tk ?_)) nd)⟩
  repeat walk_at "w"
  intro a1
  refine ⟨⟨a1, 1 + st0, true, as, true, names⟩, rfl, rfl, hacts, rfl, fun b o q => q, fun r J' hh => ?_, fun e J' z => z.elim⟩
  obtain ⟨rfl, p1, rfl⟩ := hh
  let x1 : HA := ⟨a1, p1, 1 + st0, as, names, ⟨[], 0, []⟩⟩
  have ok1 : ∀ {m : Hs} {n : Nat}, ModOk as.length m n → n ≤ 9000 → HaOk (withM x1 m) := fun h hb => haOk_of hacts hnames h hb
  refine ⟨rfl, _, Cv.comm, rfl, wss_cons (ws_setI nd ?_)⟩
  repeat walk_at "w"
  refine id_lst rfl e3 ?_
  repeat walk_at "w"
  refine ⟨rfl, wss_cons (ws_setI nd ?_)⟩
  repeat walk_at "w"
  refine id_lst rfl e12 ?_
  repeat walk_at "w"
  obtain ⟨k1, k2⟩ := mod_in n12 (m := 4) (by decide)
  obtain ⟨kn0, hkn0⟩ := Int.eq_ofNat_of_zero_le k1
  rw [hkn0] at k2
  rw [hkn0, show (5 + (kn0 : Int)) = ((5 + kn0 : Nat) : Int) from by omega]
  have hkn : 5 ≤ 5 + kn0 ∧ 5 + kn0 ≤ 8 := by omega
  generalize 5 + kn0 = kn at hkn
  refine ⟨rfl, wss_cons (ws_setI nd ?_)⟩
  repeat walk_at "w"
  refine id_lst rfl e13 ?_
  repeat walk_at "w"
  obtain ⟨mo1, mo2⟩ := mod_in n13 (m := 25 - (kn : Int)) (by omega)
  refine ⟨rfl, ?_⟩
  have tail : ∀ more : Int, 0 ≤ more → more ≤ 24 → Wss (actOf P w K mg base nLw dLaw.qual dLaw.scope (He.fAd K dLaw.at_) cdv A0 outer s ((sLw K).md sc) W0 E ((sLw K).ex sc)) (dLaw.body.drop 12)
      [dL (sc.map .int), dL (ns.map .int), dI (1 + st0), dI as.length, dL (as.map actD), r5, dL (names.map .str), .dat (worldD x1), .raw (.ref a1), dI n3, dI kn, dI more, .un, .un, .un, .un, .un, .un, .un, .un, .un, .un, .un, .un, .un, .un] (doR K x1 ⟨[], 0, []⟩) (fun _ J' => (sLw K).rt sc dN J') ((sLw K).rt sc) (fun _ _ => False) (fun _ _ => False) := by
    intro more hmo1 hmo2
    have hm2 : (2 : Int) ≤ as.length := by omega
    have hm5 : (as.length : Int) ≤ 5 := by omega
    have hnz := hnames.2.2
    have hnl3 := hnames.2.1
    -- first
    refine wss_cons (ws_setI nd (we_lc rfl nd (lc_R [("k", 5)] T.free ?_) (blkOk_by (N := nLw) (sc := dLaw.scope) (by decide +kernel)) (by decide) (by intro _; rfl)))
    walk_at "w"
    refine ⟨_, rfl, by omega, by omega, fun i acc => acc = (List.range i).map fun (j : Nat) => chD (nthP (n3 + (j : Int)) as.length), rfl, ?_, fun acc he => ?_⟩
    · rintro i acc hi rfl
      refine ⟨[dL (sc.map .int), dL (ns.map .int), dI (1 + st0), dI as.length, dL (as.map actD), dI i, dL (names.map .str), .dat (worldD x1), .raw (.ref a1), dI n3, dI kn, dI more, .un, .un, .un, .un, .un, .un, .un, .un, .un, .un, .un, .un, .un, .un], true, fun s H C cl fp D => wgc_name 5 rfl nd, fun s H C cl fp D => rfl, ?_⟩
      refine iteT ⟨chD (nthP (n3 + (i : Int)) as.length), ?_, ?_, fun s H C cl fp D => ?_⟩
      · rw [List.length_map, List.length_range]; omega
      · show _ = (List.range (i + 1)).map _
        rw [List.range_succ, List.map_append]; rfl
      · refine we_call (c_Nt T) hr (by decide) bTakes ?_
        repeat walk_at "w"
        exact ⟨⟨n3 + (i : Int), as.length⟩, rfl, rfl, ⟨by show 0 ≤ n3 + (i : Int); omega, hm2, hm5⟩, fun z o q => q, fun _ _ _ => True.intro, fun z q => q.elim, fun r J' hh => hh, fun e J' hh => hh.elim⟩
    have he2 : acc = ((List.range kn).map fun (j : Nat) => nthP (n3 + (j : Int)) as.length).map chD := by
      have he : acc = (List.range ((kn : Int)).toNat).map fun (j : Nat) => chD (nthP (n3 + (j : Int)) as.length) := he
      rw [he, List.map_map]; rfl
    subst he2
    have hfg : ∀ c ∈ (List.range kn).map (fun (j : Nat) => nthP (n3 + (j : Int)) as.length), good c as.length = true := fun c hc => by
      obtain ⟨j, _, rfl⟩ := List.mem_map.mp hc
      exact nth_good hm2
    have hfl : ((List.range kn).map (fun (j : Nat) => nthP (n3 + (j : Int)) as.length)).length = kn := by rw [List.length_map, List.length_range]
    have hrow : ∀ L : Int, rowsFrom L na ((List.range kn).map fun (j : Nat) => nthP (n3 + (j : Int)) as.length) 0 = (List.range kn).map fun (j : Nat) => (⟨L + (j : Int) + 1, na, nthP (n3 + (j : Int)) as.length⟩ : Row) := fun L => by
      have := rowsFrom_map L na (fun j => nthP (n3 + (j : Int)) as.length) kn 0
      simp only [Nat.zero_add] at this
      exact this
    have hat : ∀ k : Nat, k < kn → atI (((List.range kn).map fun (j : Nat) => nthP (n3 + (j : Int)) as.length).map chD) (k : Int) = some (chD (nthP (n3 + (k : Int)) as.length)) := fun k hk => atI_nat (by
      rw [List.getElem?_map, List.getElem?_map, List.getElem?_range hk]; rfl)
    generalize hfs : (List.range kn).map (fun (j : Nat) => nthP (n3 + (j : Int)) as.length) = fs at hfg hfl hrow hat
    refine ⟨rfl, wss_frz 12 ?_⟩
    have hfo : deedOk (.all na fs) ∧ strsOk (.all na fs) := ⟨by show fs.length ≤ 1000; omega, fun c hc => words_ok (good_w (hfg c hc))⟩
    -- the deeds
    refine wss_cons (ws_setI nd ?_)
    walk_at "w"
    walk_at "w"
    repeat walk_at "w"
    refine id_lst rfl hn0 ?_
    repeat walk_at "w"
    refine id_lst rfl hn1 ?_
    repeat walk_at "w"
    refine we_lc rfl nd (lc_RF [("k", 5)] T.free ?_) (blkOk_by (N := nLw) (sc := dLaw.scope) (by decide +kernel)) (by decide) (by intro _; rfl)
    walk_at "w"
    refine ⟨_, rfl, by omega, by omega, fun i acc => ∃ cs : List Ch, cs.length = i ∧ (∀ c ∈ cs, PyData.strOk c.w = true) ∧ acc = cs.map chD, ⟨[], rfl, (fun c hc => absurd hc List.not_mem_nil), rfl⟩, ?_, ?_⟩
    · rintro i acc hi ⟨cs, hcl, hcs, rfl⟩
      have hg : 0 ≤ n3 + (i : Int) / 9 := by
        have := Int.ediv_nonneg (show 0 ≤ (i : Int) by omega) (show (0 : Int) ≤ 9 by decide)
        omega
      refine ⟨[dL (sc.map .int), dL (ns.map .int), dI (1 + st0), dI as.length, dL (as.map actD), dI i, dL (names.map .str), .dat (worldD x1), .raw (.ref a1), dI n3, dI kn, dI more, dL (fs.map chD), .un, .un, .un, .un, .un, .un, .un, .un, .un, .un, .un, .un, .un], true, fun s H C cl fp D => wgc_name 5 rfl nd, fun s H C cl fp D => rfl, ?_⟩
      refine iteT ⟨chD (nthP (n3 + (i : Int) / 9) as.length), ?_, ⟨cs ++ [nthP (n3 + (i : Int) / 9) as.length], ?_, fun c hc => ?_, ?_⟩, fun s H C cl fp D => ?_⟩
      · rw [List.length_map, hcl]; omega
      · rw [List.length_append, hcl]; rfl
      · rcases List.mem_append.mp hc with h | h
        · exact hcs c h
        · rw [List.mem_singleton.mp h]; exact words_ok (good_w (nth_good hm2))
      · rw [List.map_append]; rfl
      · refine we_call (c_Nt T) hr (by decide) bTakes ?_
        repeat walk_at "w"
        exact ⟨⟨n3 + (i : Int) / 9, as.length⟩, rfl, rfl, ⟨hg, hm2, hm5⟩, fun z o q => q, fun _ _ _ => True.intro, fun z q => q.elim, fun r J' hh => hh, fun e J' hh => hh.elim⟩
    rintro acc ⟨cs1, hcl1, hcs1, rfl⟩
    repeat walk_at "w"
    have hd0 : ∀ d ∈ [Deed.all na fs, Deed.all nb cs1], deedOk d ∧ strsOk d := fun d hd => by
      rcases List.mem_cons.mp hd with e | hd
      · subst e; exact hfo
      · rw [List.mem_singleton.mp hd]
        exact ⟨by show cs1.length ≤ 1000; omega, hcs1⟩
    refine ⟨rfl, wss_cons ?_⟩
    refine ws_forR (passes_of rfl) rfl T.free ?_
    walk_at "w"
    refine ⟨_, rfl, by decide, by decide, fun k ρ' J' => J' = doR K x1 ⟨[], 0, []⟩ ∧ ∃ (ds : List Deed) (k5 r14 r15 r16 : Sl), ds.length ≤ 2 + 2 * k ∧ (∀ d ∈ ds, deedOk d ∧ strsOk d) ∧ ρ' = [dL (sc.map .int), dL (ns.map .int), dI (1 + st0), dI as.length, dL (as.map actD), k5, dL (names.map .str), .dat (worldD x1), .raw (.ref a1), dI n3, dI kn, dI more, dL (fs.map chD), .own (ds.map deedD), r14, r15, r16, .un, .un, .un, .un, .un, .un, .un, .un, .un],
      ⟨rfl, [.all na fs, .all nb cs1], _, _, _, _, Nat.le_refl _, hd0, rfl⟩, ?_, ?_⟩
    · rintro k ρ' J' hk ⟨rfl, ds, k5, r14, r15, r16, hdl, hds, rfl⟩
      have hk6 : k < 6 := by simpa using hk
      refine wg_name 5 ?_ nd
      refine wss_cons (ws_setI nd ?_)
      repeat walk_at "w"
      rw [show (20 + 12 * (k : Int)) = ((20 + 12 * k : Nat) : Int) from by omega]
      have hat2 : 20 + 12 * k + 12 ≤ 110 := by omega
      generalize 20 + 12 * k = at_ at hat2
      obtain ⟨n7, e7, g7, g7'⟩ := num_at hn (i := (at_ : Int) + 7) (by omega) (by omega)
      obtain ⟨n8, e8, g8, g8'⟩ := num_at hn (i := (at_ : Int) + 8) (by omega) (by omega)
      obtain ⟨n9, e9, g9, g9'⟩ := num_at hn (i := (at_ : Int) + 9) (by omega) (by omega)
      obtain ⟨n10, e10, g10, g10'⟩ := num_at hn (i := (at_ : Int) + 10) (by omega) (by omega)
      refine ⟨rfl, wss_cons (ws_setI nd ?_)⟩
      repeat walk_at "w"
      refine id_lst rfl e7 ?_
      repeat walk_at "w"
      obtain ⟨z, hzm, ez⟩ := str_at (zs := names) (i := n7 % 2) (mod_in _ (by decide)).1 (by have := (mod_in n7 (m := 2) (by decide)).2; omega)
      refine id_lst rfl ez ?_
      have rest : ∀ (name : Str) (nx : List Sl → Res → Prop) (bk ct : List Sl → Res → Prop), (∀ (ds2 : List Deed) (r16 : Sl), ds2.length ≤ ds.length + 2 → (∀ d ∈ ds2, deedOk d ∧ strsOk d) → nx [dL (sc.map .int), dL (ns.map .int), dI (1 + st0), dI as.length, dL (as.map actD), dI k, dL (names.map .str), .dat (worldD x1), .raw (.ref a1), dI n3, dI kn, dI more, dL (fs.map chD), .own (ds2.map deedD), dI at_, dS name, r16, .un, .un, .un, .un, .un, .un, .un, .un, .un] (doR K x1 ⟨[], 0, []⟩)) →
          Wss (actOf P w K mg base nLw dLaw.qual dLaw.scope (He.fAd K dLaw.at_) cdv A0 outer s ((sLw K).md sc) W0 E ((sLw K).ex sc)) (match dLaw.body.getD 14 (.Pass ⟨0, 0, 0, 0⟩) with | .For _ _ b _ _ => b.drop 3 | _ => [])
            [dL (sc.map .int), dL (ns.map .int), dI (1 + st0), dI as.length, dL (as.map actD), dI k, dL (names.map .str), .dat (worldD x1), .raw (.ref a1), dI n3, dI kn, dI more, dL (fs.map chD), .own (ds.map deedD), dI at_, dS name, r16, .un, .un, .un, .un, .un, .un, .un, .un, .un] (doR K x1 ⟨[], 0, []⟩) nx ((sLw K).rt sc) bk ct := by
        intro name nx bk ct hnx
        refine wss_cons (ws_append 13 ?_)
        repeat walk_at "w"
        refine we_call (c_Li T) hr (by decide) tk ?_
        repeat walk_at "w"
        refine ⟨⟨ns, at_, as.length, n3, kn⟩, rfl, rfl, ⟨hn, by show at_ + 7 ≤ ns.length; omega, hm2, hm5, g3, by show (5 : Int) ≤ kn; omega, by show (kn : Int) ≤ 8; omega⟩, fun z o q => q, fun _ _ _ => True.intro, fun z q => q.elim, fun r J' hh => ?_, fun e J' hh => hh.elim⟩
        obtain ⟨cs, rfl, hcl, hcs⟩ := hh
        repeat walk_at "w"
        refine ⟨_, rfl, by rw [List.length_map]; omega, ?_⟩
        rw [show ds.map deedD ++ [.tuple [.str "all", .str name, .list (cs.map chD)]] = (ds ++ [Deed.all name cs]).map deedD from by rw [List.map_append]; rfl]
        have hds1 : ∀ d ∈ ds ++ [Deed.all name cs], deedOk d ∧ strsOk d := fun d hd => by
          rcases List.mem_append.mp hd with h | h
          · exact hds d h
          · rw [List.mem_singleton.mp h]
            exact ⟨by show cs.length ≤ 1000; omega, hcs⟩
        have hl1 : (ds ++ [Deed.all name cs]).length = ds.length + 1 := by rw [List.length_append]; rfl
        generalize ds ++ [Deed.all name cs] = ds1 at hds1 hl1
        refine wss_cons (ws_setI nd ?_)
        repeat walk_at "w"
        refine id_lst rfl e8 ?_
        repeat walk_at "w"
        refine ⟨rfl, wss_cons (ws_if ?_)⟩
        repeat walk_at "w"
        refine ite_dec (fun _ => ?_) (fun _ => ?_)
        · refine wss_cons (ws_append 13 ?_)
          repeat walk_at "w"
          refine ⟨_, rfl, by rw [List.length_map]; omega, wss_nil (wss_nil ?_)⟩
          rw [show ds1.map deedD ++ [.tuple [.str "undo"]] = (ds1 ++ [Deed.undo]).map deedD from by rw [List.map_append]; rfl]
          refine hnx _ _ (by rw [List.length_append]; show ds1.length + 1 ≤ _; omega) fun d hd => ?_
          rcases List.mem_append.mp hd with h | h
          · exact hds1 d h
          · rw [List.mem_singleton.mp h]; exact ⟨True.intro, True.intro⟩
        · refine wss_cons (ws_if ?_)
          repeat walk_at "w"
          refine ite_dec (fun _ => ?_) (fun _ => ?_)
          · refine wss_cons (ws_append 13 ?_)
            repeat walk_at "w"
            refine id_lst rfl e9 ?_
            repeat walk_at "w"
            refine cd_len (d := .list (names.map .str)) (n := names.length) rfl (congrArg some (List.length_map _)) (by omega) ?_
            repeat walk_at "w"
            obtain ⟨y, hym, ey⟩ := str_at (zs := names) (i := n9 % (names.length : Int)) (mod_in _ (by omega)).1 (mod_in _ (by omega)).2
            refine id_lst rfl ey ?_
            repeat walk_at "w"
            refine we_call (c_Nt T) hr (by decide) tk ?_
            repeat walk_at "w"
            refine id_lst rfl e10 ?_
            repeat walk_at "w"
            have h9 := (mod_in n10 (m := 9) (by decide)).1
            refine ⟨⟨n3 + n10 % 9, as.length⟩, rfl, rfl, ⟨by show 0 ≤ n3 + n10 % 9; omega, hm2, hm5⟩, fun z o q => q, fun _ _ _ => True.intro, fun z q => q.elim, fun r J' hh => ?_, fun e J' hh => hh.elim⟩
            have hh : r = .dat (chD (nthP (n3 + n10 % 9) as.length)) := hh
            subst hh
            repeat walk_at "w"
            refine ⟨_, rfl, by rw [List.length_map]; omega, wss_nil (wss_nil (wss_nil ?_))⟩
            rw [show ds1.map deedD ++ [.tuple [.str "see", .str y, chD (nthP (n3 + n10 % 9) as.length)]] = (ds1 ++ [Deed.see y (nthP (n3 + n10 % 9) as.length)]).map deedD from by rw [List.map_append]; rfl]
            refine hnx _ _ (by rw [List.length_append]; show ds1.length + 1 ≤ _; omega) fun d hd => ?_
            rcases List.mem_append.mp hd with h | h
            · exact hds1 d h
            · rw [List.mem_singleton.mp h]; exact ⟨True.intro, words_ok (good_w (nth_good hm2))⟩
          · exact wss_nil (wss_nil (wss_nil (hnx _ _ (by omega) hds1)))
      have done : ∀ (ds2 : List Deed) (name : Str) (r16 : Sl), ds2.length ≤ ds.length + 2 → (∀ d ∈ ds2, deedOk d ∧ strsOk d) → doR K x1 ⟨[], 0, []⟩ = doR K x1 ⟨[], 0, []⟩ ∧ ∃ (ds : List Deed) (k5 r14 r15 r16' : Sl), ds.length ≤ 2 + 2 * (k + 1) ∧ (∀ d ∈ ds, deedOk d ∧ strsOk d) ∧ [dL (sc.map .int), dL (ns.map .int), dI (1 + st0), dI as.length, dL (as.map actD), dI k, dL (names.map .str), .dat (worldD x1), .raw (.ref a1), dI n3, dI kn, dI more, dL (fs.map chD), .own (ds2.map deedD), dI at_, dS name, r16, .un, .un, .un, .un, .un, .un, .un, .un, .un] = [dL (sc.map .int), dL (ns.map .int), dI (1 + st0), dI as.length, dL (as.map actD), k5, dL (names.map .str), .dat (worldD x1), .raw (.ref a1), dI n3, dI kn, dI more, dL (fs.map chD), .own (ds.map deedD), r14, r15, r16', .un, .un, .un, .un, .un, .un, .un, .un, .un] :=
        fun ds2 name r16 h1 h2 => ⟨rfl, ds2, _, _, _, _, by omega, h2, rfl⟩
      refine ⟨rfl, wss_cons (ws_if ?_)⟩
      repeat walk_at "w"
      refine id_lst rfl e7 ?_
      repeat walk_at "w"
      refine ite_dec (fun _ => ?_) (fun _ => wss_nil (rest _ _ _ _ fun ds2 r16 h1 h2 => done ds2 _ r16 h1 h2))
      have hl1 : atI (names.map PyData.str) (-1) = some (.str (names[names.length - 1])) := by
        have e : names.map PyData.str = (names.take (names.length - 1)).map PyData.str ++ [.str (names[names.length - 1])] := by
          rw [← List.map_singleton (f := PyData.str), ← List.map_append, List.take_append_getElem (by omega)]
          congr 1
          rw [List.take_of_length_le (by omega)]
        rw [e]
        exact atI_last _ _
      have hzl := hnz _ (List.getElem_mem (l := names) (n := names.length - 1) (by omega))
      generalize names[names.length - 1] = zl at hl1 hzl
      refine wss_cons (ws_setI nd ?_)
      repeat walk_at "w"
      refine id_lst rfl hl1 ?_
      repeat walk_at "w"
      refine we_lcL [("one", 25)] rfl nd ?_ (ok := blkOk_by (N := nLw) (sc := dLaw.scope) (by decide +kernel))
      repeat walk_at "w"
      refine ⟨_, rfl, rfl, fun i acc => acc = (names.take i).map fun z => .int (z.length : Int), rfl, ?_, fun acc he => ?_⟩
      · rintro i d acc hd rfl
        rw [List.getElem?_map] at hd
        obtain ⟨y, hy, rfl⟩ := Option.map_eq_some_iff.mp hd
        have eT : names.take (i + 1) = names.take i ++ [y] := by rw [List.take_add_one, hy]; rfl
        refine ⟨[dL (sc.map .int), dL (ns.map .int), dI (1 + st0), dI as.length, dL (as.map actD), dI k, dL (names.map .str), .dat (worldD x1), .raw (.ref a1), dI n3, dI kn, dI more, dL (fs.map chD), .own (ds.map deedD), dI at_, dS z, r16, .un, .un, .un, .un, .un, .un, .un, .un, dS y], true, fun s H C cl fp D => wgc_name 25 rfl nd, fun s H C cl fp D => rfl, ?_⟩
        refine iteT ⟨.int (y.length : Int), ?_, ?_, fun s H C cl fp D => ?_⟩
        · rw [List.length_map, List.length_take]; omega
        · show _ = (names.take (i + 1)).map _
          rw [eT, List.map_append]; rfl
        · repeat walk_at "w"
          refine cd_len (d := .str y) rfl rfl ?_ rfl
          have := hnz y (List.mem_of_getElem? hy)
          omega
      have he : acc = (names.take (names.map PyData.str).length).map fun z => .int (z.length : Int) := he
      rw [List.length_map, List.take_length] at he
      have he2 : acc = (names.map fun z => (z.length : Int)).map .int := by rw [he, List.map_map]; rfl
      subst he2
      repeat walk_at "w"
      refine cd_maxL (ns := names.map fun z => (z.length : Int)) rfl rfl (by rw [List.length_map]; omega) fun mx hm _ => ?_
      obtain ⟨y, hy, rfl⟩ := List.mem_map.mp hm
      have hyl := hnz y hy
      refine od_mulS (by omega) (by omega) (by decide) ?_
      have hrl := repS_len "z" (y.length : Int)
      have hce : (("z" : Str)).length = 1 := by decide +kernel
      rw [hce] at hrl
      refine od_addS (by omega) ?_
      exact ⟨rfl, wss_nil (rest _ _ _ _ fun ds2 r16 h1 h2 => done ds2 _ r16 h1 h2)⟩
    rintro ρ' J' ⟨rfl, ds, k5, r14, r15, r16, hdl, hds, rfl⟩
    have hdl : ds.length ≤ 14 := by have h : ds.length ≤ 2 + 2 * 6 := hdl; omega
    refine wss_cons (ws_setI nd ?_)
    walk_at "w"
    walk_at "w"
    walk_at "w"
    walk_at "w"
    walk_at "w"
    walk_at "w"
    walk_at "w"
    walk_at "w"
    refine id_lst rfl hn0 ?_
    repeat walk_at "w"
    refine we_lcL [("one", 25)] rfl nd ?_ (ok := blkOk_by (N := nLw) (sc := dLaw.scope) (by decide +kernel))
    repeat walk_at "w"
    refine ⟨_, rfl, rfl, fun i acc => acc = (names.take i).map fun z => .int (z.length : Int), rfl, ?_, fun acc he => ?_⟩
    · rintro i d acc hd rfl
      rw [List.getElem?_map] at hd
      obtain ⟨y, hy, rfl⟩ := Option.map_eq_some_iff.mp hd
      have eT : names.take (i + 1) = names.take i ++ [y] := by rw [List.take_add_one, hy]; rfl
      refine ⟨[dL (sc.map .int), dL (ns.map .int), dI (1 + st0), dI as.length, dL (as.map actD), k5, dL (names.map .str), .dat (worldD x1), .raw (.ref a1), dI n3, dI kn, dI more, dL (fs.map chD), .own (ds.map deedD), r14, r15, r16, .un, .un, .un, .un, .un, .un, .un, .un, dS y], true, fun s H C cl fp D => wgc_name 25 rfl nd, fun s H C cl fp D => rfl, ?_⟩
      refine iteT ⟨.int (y.length : Int), ?_, ?_, fun s H C cl fp D => ?_⟩
      · rw [List.length_map, List.length_take]; omega
      · show _ = (names.take (i + 1)).map _
        rw [eT, List.map_append]; rfl
      · repeat walk_at "w"
        refine cd_len (d := .str y) rfl rfl ?_ rfl
        have := hnz y (List.mem_of_getElem? hy)
        omega
    have he : acc = (names.take (names.map PyData.str).length).map fun z => .int (z.length : Int) := he
    rw [List.length_map, List.take_length] at he
    have he2 : acc = (names.map fun z => (z.length : Int)).map .int := by rw [he, List.map_map]; rfl
    subst he2
    repeat walk_at "w"
    refine cd_maxL (ns := names.map fun z => (z.length : Int)) rfl rfl (by rw [List.length_map]; omega) fun mx hm _ => ?_
    obtain ⟨y, hy, rfl⟩ := List.mem_map.mp hm
    have hyl := hnz y hy
    refine od_mulS (by omega) (by omega) (by decide) ?_
    have hrl := repS_len "a" (y.length : Int)
    have hce : (("a" : Str)).length = 1 := by decide +kernel
    rw [hce] at hrl
    have hzna := hnz na hm0
    refine od_addS (by omega) ?_
    generalize na ++ repS "a" (y.length : Int) = nu
    walk_at "w"
    refine we_lstF ?_
    repeat walk_at "w"
    refine ⟨rfl, wss_cons (ws_setI nd ?_)⟩
    repeat walk_at "w"
    refine id_lst rfl e15 ?_
    repeat walk_at "w"
    refine cd_len (d := .list (ds.map deedD)) (n := ds.length) rfl (congrArg some (List.length_map _)) (by omega) ?_
    repeat walk_at "w"
    obtain ⟨sp1, sp2⟩ := mod_in n15 (m := (ds.length : Int) + 1) (by omega)
    generalize n15 % ((ds.length : Int) + 1) = sp at sp1 sp2
    obtain ⟨si, rfl⟩ := Int.eq_ofNat_of_zero_le sp1
    refine ⟨rfl, wss_cons (ws_setI nd ?_)⟩
    walk_at "w"
    walk_at "w"
    refine we_lstF ?_
    walk_at "w"
    walk_at "w"
    walk_at "w"
    walk_at "w"
    walk_at "w"
    refine we_lstF ?_
    repeat walk_at "w"
    refine ⟨rfl, wss_cons (ws_forL (passes_of rfl) rfl ?_)⟩
    have ml : (ds.map deedD).length = ds.length := List.length_map _
    repeat walk_at "w"
    refine sd_lst rfl ?_
    rw [cut_to (by rw [ml]; omega)]
    repeat walk_at "w"
    refine od_addL (ds := (ds.map deedD).take si) (es := [deedD (.all nu [])]) rfl rfl (by rw [List.length_take, ml]; show min si _ + 1 ≤ _; omega) ?_
    repeat walk_at "w"
    refine sd_lst rfl ?_
    rw [cut_from (by rw [ml]; omega)]
    refine od_addLF (ds := (ds.map deedD).take si ++ [deedD (.all nu [])]) (es := (ds.map deedD).drop si) rfl rfl (by rw [List.length_append, List.length_take, List.length_drop, ml]; show min si _ + 1 + _ ≤ _; omega) ?_
    have hall : ∀ d ∈ ds.take si ++ [Deed.all nu []] ++ ds.drop si, deedOk d ∧ strsOk d := fun d hd => by
      rcases List.mem_append.mp hd with h | h
      · rcases List.mem_append.mp h with h | h
        · exact hds d (List.mem_of_mem_take h)
        · rw [List.mem_singleton.mp h]
          exact ⟨Nat.zero_le _, fun c hc => absurd hc List.not_mem_nil⟩
      · exact hds d (List.mem_of_mem_drop h)
    have hll : (ds.take si ++ [Deed.all nu []] ++ ds.drop si).length ≤ 15 := by
      rw [List.length_append, List.length_append, List.length_take, List.length_drop]
      show min si _ + 1 + _ ≤ _
      omega
    have hmm : (ds.map deedD).take si ++ [deedD (.all nu [])] ++ (ds.map deedD).drop si = (ds.take si ++ [Deed.all nu []] ++ ds.drop si).map deedD := by
      rw [List.map_append, List.map_append, List.map_take, List.map_drop]; rfl
    rw [hmm]
    generalize ds.take si ++ [Deed.all nu []] ++ ds.drop si = qs at hall hll
    -- one deed: what is returned and what stands
    refine ⟨qs.map deedD, rfl, fun k ρ' J' => ∃ (m : Hs) (r20 r21 r22 : Sl), ModOk as.length m k ∧ J' = doR K x1 m ∧ ρ' = [dL (sc.map .int), dL (ns.map .int), dI (1 + st0), dI as.length, dL (as.map actD), k5, dL (names.map .str), .dat (worldD x1), .raw (.ref a1), dI n3, dI kn, dI more, dL (fs.map chD), .own (ds.map deedD), r14, r15, r16, .dat (deedD (.all nu [])), dI si, .dat (modD m), r20, r21, r22, .un, .un, .un],
      ⟨⟨[], 0, []⟩, _, _, _, mod0 _, rfl, rfl⟩, ?_, ?_⟩
    · rintro k d ρ' J' hd ⟨m, r20, r21, r22, hm, rfl, rfl⟩
      rw [List.getElem?_map] at hd
      obtain ⟨dd, hdd, rfl⟩ := Option.map_eq_some_iff.mp hd
      have hk : k < qs.length := (List.getElem?_eq_some_iff.mp hdd).1
      obtain ⟨dk1, dk2⟩ := hall dd (List.mem_of_getElem? hdd)
      have hpl := hm.past
      refine wg_name 20 ?_ nd
      refine wss_cons (ws_asg (we_call (c_St T) hr (by decide) tk ?_))
      repeat walk_at "w"
      refine ⟨⟨m, names, as.length, dd⟩, rfl, rfl, ⟨hm.hs, by show m.past.length ≤ 10000; omega, dk1⟩, fun z o q => q, fun _ _ _ => True.intro, fun z q => q.elim, fun r J' hh => ?_, fun e J' hh => hh.elim⟩
      have hh : r = dT [outD (stepH (withM x1 m) dd).1, modD (stepP names as.length m dd).2] := hh
      subst hh
      have hm' := hm.step (names := names) dd
      refine wg_tup (ds := [outD (stepH (withM x1 m) dd).1, modD (stepP names as.length m dd).2]) rfl ?_
      refine wgs_cons (wg_name 21 ?_ nd)
      refine wgs_cons (wg_name 22 ?_ nd)
      refine wgs_nil (wss_cons (ws_setI nd ?_))
      repeat walk_at "w"
      refine ⟨rfl, wss_cons (ws_ifJ (wtj_bool (wwj_or (wtj_not (wtj_val (wj_call (c_Same T 4) hr (by decide) tk (waj_cons (wj_out (wj_call (c_Do T B) hr (by decide) tk (waj_of ?_)))))))))) ⟩
      repeat walk_at "w"
      refine icall (S := sDo K) ⟨withM x1 m, dd⟩ .emp rfl rfl ⟨ok1 hm (by omega), dk1, dk2⟩ Cv.emp fr_emp (fun z o q => ?_) (fun r J' hh => ?_) (fun e J' z => z.elim)
      · exact lwM (ns := sc) q
      obtain ⟨rfl, rfl⟩ := hh
      refine ⟨rfl, doR K x1 (stepP names as.length m dd).2, Cv.fst, ?_⟩
      repeat walk_at "w"
      refine icall_pure ⟨outD (stepH (withM x1 m) dd).1, rfl, rfl, same_out dk1, fun z o q => q, fun _ _ _ => True.intro, fun z q => q.elim, fun r J' hh => ?_, fun e J' z => z.elim⟩
      have hh : r = dB true := hh
      subst hh
      refine ⟨true, rfl, iteF (wwj_or1 (wtj_of (wt_not (wt_val ?_))))⟩
      generalize (stepP names as.length m dd).2 = m' at hm'
      refine we_call (c_Bk T) hr (by decide) tk ?_
      repeat walk_at "w"
      refine ⟨withM x1 m', rfl, rfl, ok1 hm' (by omega), fun z o q => q, fun _ _ h => h.2.1, fun z h => .inr h, fun r J' hh => ?_, fun e J' z => z.elim⟩
      have hh : r = dB true := hh
      subst hh
      exact ⟨true, rfl, iteF (wss_nil (wss_nil ⟨m', _, _, _, hm', rfl, rfl⟩))⟩
    rintro ρ' J' ⟨m, r20, r21, r22, hm, rfl, rfl⟩
    have hm : ModOk as.length m 15 := hm.mono (by rw [List.length_map]; exact hll)
    -- back to the empty house
    refine wss_cons ?_
    refine ws_forR (passes_of rfl) rfl T.free ?_
    walk_at "w"
    refine ⟨_, rfl, by decide, by decide, fun k ρ' J' => ∃ (m : Hs) (k5 r21 r22 : Sl), ModOk as.length m 15 ∧ m.past.length ≤ 15 - k ∧ J' = doR K x1 m ∧ ρ' = [dL (sc.map .int), dL (ns.map .int), dI (1 + st0), dI as.length, dL (as.map actD), k5, dL (names.map .str), .dat (worldD x1), .raw (.ref a1), dI n3, dI kn, dI more, dL (fs.map chD), .own (ds.map deedD), r14, r15, r16, .dat (deedD (.all nu [])), dI si, .dat (modD m), r20, r21, r22, .un, .un, .un],
      ⟨m, _, _, _, hm, hm.past, rfl, rfl⟩, ?_, ?_⟩
    · rintro k ρ' J' hk ⟨m, k5, r21, r22, hm, hpk, rfl, rfl⟩
      have hpl := hm.past
      refine wg_name 5 ?_ nd
      refine wss_cons (ws_asg (we_call (c_St T) hr (by decide) tk ?_))
      repeat walk_at "w"
      refine ⟨⟨m, names, as.length, .undo⟩, rfl, rfl, ⟨hm.hs, by show m.past.length ≤ 10000; omega, True.intro⟩, fun z o q => q, fun _ _ _ => True.intro, fun z q => q.elim, fun r J' hh => ?_, fun e J' hh => hh.elim⟩
      have hh : r = dT [outD (stepH (withM x1 m) .undo).1, modD (stepP names as.length m .undo).2] := hh
      subst hh
      have hm1 := hm.step (names := names) .undo
      have hul : (stepP names as.length m .undo).2.past.length = m.past.length - 1 := undo_past
      refine wg_tup (ds := [outD (stepH (withM x1 m) .undo).1, modD (stepP names as.length m .undo).2]) rfl ?_
      refine wgs_cons (wg_name 21 ?_ nd)
      refine wgs_cons (wg_name 22 ?_ nd)
      refine wgs_nil (wss_cons (ws_setI nd ?_))
      repeat walk_at "w"
      refine ⟨rfl, wss_cons (ws_ifJ (wtj_bool (wwj_or (wtj_not (wtj_val (wj_call (c_Same T 4) hr (by decide) tk (waj_cons (wj_out (wj_call (c_Do T B) hr (by decide) tk (waj_of ?_)))))))))) ⟩
      repeat walk_at "w"
      refine icall (S := sDo K) ⟨withM x1 m, .undo⟩ .emp rfl rfl ⟨ok1 hm (by omega), True.intro, True.intro⟩ Cv.emp fr_emp (fun z o q => ?_) (fun r J' hh => ?_) (fun e J' z => z.elim)
      · exact lwM (ns := sc) q
      obtain ⟨rfl, rfl⟩ := hh
      refine ⟨rfl, doR K x1 (stepP names as.length m .undo).2, Cv.fst, ?_⟩
      repeat walk_at "w"
      refine icall_pure ⟨outD (stepH (withM x1 m) .undo).1, rfl, rfl, same_out True.intro, fun z o q => q, fun _ _ _ => True.intro, fun z q => q.elim, fun r J' hh => ?_, fun e J' z => z.elim⟩
      have hh : r = dB true := hh
      subst hh
      refine ⟨true, rfl, iteF (wwj_or1 (wtj_of (wt_not (wt_val ?_))))⟩
      generalize (stepP names as.length m .undo).2 = m' at hm1 hul
      have hm' : ModOk as.length m' 15 := ⟨hm1.hs, hm1.last, by omega, hm1.chain⟩
      refine we_call (c_Same T 4) hr (by decide) tk ?_
      walk_at "w"
      refine we_meth0 (c_He T) hr (by decide) tk ?_
      walk_at "w"
      refine ⟨rcv_J (fun _ _ h => h.2.1.1) rfl, ?_⟩
      refine ⟨withM x1 m', rfl, rfl, True.intro, fun z o q => q, fun _ _ h => h.2.1, fun z h => .inr h, fun r J' hh => ?_, fun e J' z => z.elim⟩
      have hh : r = .dat (rowsT m'.rows) := hh
      subst hh
      repeat walk_at "w"
      refine ⟨rowsT m'.rows, rfl, rfl, same_rows hm'.hs.rows.len, fun z o q => q, fun _ _ _ => True.intro, fun z q => q.elim, fun r J' hh => ?_, fun e J' z => z.elim⟩
      have hh : r = dB true := hh
      subst hh
      exact ⟨true, rfl, iteF (wss_nil (wss_nil ⟨m', _, _, _, hm', by omega, rfl, rfl⟩))⟩
    rintro ρ' J' ⟨m, k6, r21', r22', hm, hpk, rfl, rfl⟩
    have hp0 : m.past = [] := List.length_eq_zero_iff.mp (by have h : m.past.length ≤ 15 - (16 : Int).toNat := hpk; have e : (16 : Int).toNat = 16 := rfl; omega)
    have hr0 : m.rows = [] := by
      have h := hm.chain
      rw [hp0] at h
      have h : some m.rows = some [] := h
      exact Option.some.inj h
    obtain ⟨rows, L, past⟩ := m
    have hp0 : past = [] := hp0
    have hr0 : rows = [] := hr0
    subst hp0
    subst hr0
    have hadd : addAll names as.length na L fs [] 0 = .ok (rowsFrom L na fs 0) := addAll_whole hm0 fs [] 0 hfg (by show 0 + fs.length ≤ 8; omega)
    have eall : stepH (withM x1 ⟨[], L, []⟩) (.all na fs) = (.ok (.tuple (keysFrom L kn)), (⟨[], L, []⟩ : Hs).add (rowsFrom L na fs 0) (L + kn)) := by
      have h : stepP names as.length ⟨[], L, []⟩ (.all na fs) = (.ok (.tuple (keysFrom L fs.length)), (⟨[], L, []⟩ : Hs).add (rowsFrom L na fs 0) (L + fs.length)) := by
        simp only [stepP]
        rw [if_pos hm0, hadd]
      rw [hfl] at h
      exact h
    refine wss_cons (ws_setI nd ?_)
    repeat walk_at "w"
    refine ⟨rfl, wss_cons (ws_ifJ (wtj_not (wtj_val (wj_call (c_Same T 4) hr (by decide) tk (waj_cons (wj_out (wj_call (c_Do T B) hr (by decide) tk (waj_of ?_)))))))) ⟩
    repeat walk_at "w"
    refine id_lst rfl hn0 ?_
    repeat walk_at "w"
    refine icall (S := sDo K) ⟨withM x1 ⟨[], L, []⟩, .all na fs⟩ .emp rfl rfl ⟨ok1 hm (by decide), hfo.1, hfo.2⟩ Cv.emp fr_emp (fun z o q => ?_) (fun r J' hh => ?_) (fun e J' z => z.elim)
    · exact lwM (ns := sc) q
    obtain ⟨rfl, rfl⟩ := hh
    refine ⟨rfl, doR K x1 ((⟨[], L, []⟩ : Hs).add (rowsFrom L na fs 0) (L + kn)), ?_, ?_⟩
    · show Cv ((doR K (withM x1 ⟨[], L, []⟩) (stepH (withM x1 ⟨[], L, []⟩) (.all na fs)).2).star .emp) _
      rw [eall]
      exact Cv.fst
    repeat walk_at "w"
    refine we_lcR [("k", 5)] rfl nd T.free ?_ (ok := blkOk_by (N := nLw) (sc := dLaw.scope) (by decide +kernel))
    walk_at "w"
    refine ⟨_, rfl, by omega, by omega, fun i acc => acc = keysFrom L i, rfl, ?_, fun acc he => ?_⟩
    · rintro i acc hi rfl
      refine ⟨[dL (sc.map .int), dL (ns.map .int), dI (1 + st0), dI as.length, dL (as.map actD), dI i, dL (names.map .str), .dat (worldD x1), .raw (.ref a1), dI n3, dI kn, dI more, dL (fs.map chD), .own (ds.map deedD), r14, r15, r16, .dat (deedD (.all nu [])), dI si, .dat (modD ⟨[], L, []⟩), r20, r21', r22', dI L, .un, .un], true, fun s H C cl fp D => wgc_name 5 rfl nd, fun s H C cl fp D => rfl, ?_⟩
      refine iteT ⟨.int (L + i + 1), ?_, ?_, fun s H C cl fp D => ?_⟩
      · rw [keys_len]; omega
      · show _ = keysFrom L (i + 1)
        rw [keys_snoc]
      · repeat walk_at "w"
        rw [show L + 1 + (i : Int) = L + i + 1 by omega]
    have he : acc = keysFrom L kn := he
    subst he
    repeat walk_at "w"
    refine icall_pure ⟨toldD (.tuple (keysFrom L kn)), ?_, rfl, same_two (n := 3) same_str ⟨by rw [keys_len]; omega, fun z hz => ?_⟩, fun z o q => q, fun _ _ _ => True.intro, fun z q => q.elim, fun r J' hh => ?_, fun e J' z => z.elim⟩
    · show [Sl.dat (outD (stepH (withM x1 ⟨[], L, []⟩) (.all na fs)).1), _] = _
      rw [eall]
      rfl
    · obtain ⟨i, _, rfl⟩ := List.mem_map.mp hz
      exact same_int
    have hh : r = dB true := hh
    subst hh
    refine ⟨true, rfl, iteF (wss_nil (wss_cons (ws_ret ?_)))⟩
    refine we_call (c_Same T 4) hr (by decide) tk ?_
    walk_at "w"
    refine we_meth0 (c_He T) hr (by decide) tk ?_
    walk_at "w"
    refine ⟨rcv_J (fun _ _ h => h.2.1.1) rfl, ?_⟩
    refine ⟨withM x1 ((⟨[], L, []⟩ : Hs).add (rowsFrom L na fs 0) (L + kn)), rfl, rfl, True.intro, fun z o q => q, fun _ _ h => h.2.1, fun z h => .inr h, fun r J' hh => ?_, fun e J' z => z.elim⟩
    have hh : r = .dat (rowsT (rowsFrom L na fs 0)) := hh
    subst hh
    have hrl : (rowsFrom L na fs 0).length = kn := by rw [hrow, List.length_map, List.length_range]
    walk_at "w"
    walk_at "w"
    refine we_lcR [("k", 5)] rfl nd T.free ?_ (ok := blkOk_by (N := nLw) (sc := dLaw.scope) (by decide +kernel))
    walk_at "w"
    refine ⟨_, rfl, by omega, by omega, fun i acc => acc = ((rowsFrom L na fs 0).map rowD).take i, rfl, ?_, fun acc he => ?_⟩
    · rintro i acc hi rfl
      have hi' : i < kn := by simpa using hi
      have hget : ((rowsFrom L na fs 0).map rowD)[i]? = some (rowD ⟨L + (i : Int) + 1, na, nthP (n3 + (i : Int)) as.length⟩) := by
        rw [hrow, List.getElem?_map, List.getElem?_map, List.getElem?_range hi']; rfl
      refine ⟨[dL (sc.map .int), dL (ns.map .int), dI (1 + st0), dI as.length, dL (as.map actD), dI i, dL (names.map .str), .dat (worldD x1), .raw (.ref a1), dI n3, dI kn, dI more, dL (fs.map chD), .own (ds.map deedD), r14, r15, r16, .dat (deedD (.all nu [])), dI si, .dat (modD ⟨[], L, []⟩), r20, r21', r22', dI L, .un, .un], true, fun s H C cl fp D => wgc_name 5 rfl nd, fun s H C cl fp D => rfl, ?_⟩
      refine iteT ⟨rowD ⟨L + (i : Int) + 1, na, nthP (n3 + (i : Int)) as.length⟩, ?_, ?_, fun s H C cl fp D => ?_⟩
      · rw [List.length_take, List.length_map, hrl]; omega
      · show _ = List.take (i + 1) _
        rw [List.take_add_one, hget]; rfl
      · repeat walk_at "w"
        refine id_lst rfl hn0 ?_
        repeat walk_at "w"
        refine id_lst rfl (hat i hi') ?_
        repeat walk_at "w"
        rw [show L + 1 + (i : Int) = L + i + 1 by omega]
        rfl
    have he : acc = ((rowsFrom L na fs 0).map rowD).take kn := he
    rw [List.take_of_length_le (by rw [List.length_map, hrl]; exact Nat.le_refl _)] at he
    subst he
    repeat walk_at "w"
    refine ⟨rowsT (rowsFrom L na fs 0), rfl, rfl, same_rows (by rw [hrl]; omega), fun z o q => q, fun _ _ _ => True.intro, fun z q => q.elim, fun r J' hh => ?_, fun e J' z => z.elim⟩
    have hh : r = dB true := hh
    subst hh
    rfl
  refine wss_cons (ws_if ?_)
  repeat walk_at "w"
  refine id_lst rfl e14 ?_
  repeat walk_at "w"
  refine ite_dec (fun _ => ?_) (fun _ => wss_nil (tail _ (by omega) (by omega)))
  refine wss_cons (ws_setI nd ?_)
  repeat walk_at "w"
  refine id_lst rfl e13 ?_
  repeat walk_at "w"
  refine cd_max2 rfl ?_
  obtain ⟨v1, v2⟩ := mod_in n13 (m := 5) (by decide)
  refine ⟨rfl, wss_nil (tail _ ?_ ?_)⟩
  · split <;> omega
  · split <;> omega
end
end KK

namespace KK
open PySem PySem.Spec PyProof.Rows L2 DL
/-! what it tells -/
theorem mem_fa {f : He.Fa} (h : f ∈ fa) : f ∈ faX := List.mem_append_left _ (List.mem_append_left _ h)
theorem shapes : ∀ t ∈ xNames, ∃ (p1 p2 q1 q2 q3 q4 q5 q6 q7 q8 q9 q10 : Pos) (j : Nat) (msg : Str), defArgs (inC t.2.2.2 0) = xA t.2.1 p1 p2 ∧ defBody (inC t.2.2.2 0) = xB t.2.1 msg j q1 q2 q3 q4 q5 q6 q7 q8 q9 q10 ∧ defScope (inC t.2.2.2 0) = xS t.2.1 ∧
    ∃ pl : PySem.Env → Sem Bool, ∀ env : PySem.Env, eval (.Call (.Attribute (.Call (.Name "super" q1) [] [] q2) "__init__" q3) [.Constant (.str msg) j q4] [] q5) env = (do
      let ov ← attributeBase (.Call (.Name "super" q1) [] [] q2) "__init__" env (eval (.Call (.Name "super" q1) [] [] q2) env)
      standAt q3.atName
      let (f, first) ← holding [ov] (getMethod ov "__init__" (pl env))
      callWith q5 f first (backTo q5 (starEach [.Constant (.str msg) j q4] env)) []) := by
  intro t ht
  unfold xNames at ht
  simp only [List.mem_cons, List.not_mem_nil, or_false] at ht
  rcases ht with e | e | e | e | e <;> subst e
  · exact ⟨_, _, _, _, _, _, _, _, _, _, _, _, _, _, rfl, rfl, rfl, _, fun env => rfl⟩
  · exact ⟨_, _, _, _, _, _, _, _, _, _, _, _, _, _, rfl, rfl, rfl, _, fun env => rfl⟩
  · exact ⟨_, _, _, _, _, _, _, _, _, _, _, _, _, _, rfl, rfl, rfl, _, fun env => rfl⟩
  · exact ⟨_, _, _, _, _, _, _, _, _, _, _, _, _, _, rfl, rfl, rfl, _, fun env => rfl⟩
  · exact ⟨_, _, _, _, _, _, _, _, _, _, _, _, _, _, rfl, rfl, rfl, _, fun env => rfl⟩
end KK

namespace KK
open PySem PySem.Spec PyProof.Rows L2 DL
section
variable {K : PySem.W.Frag} {h : Heap} {mg : Str → Option Value} {base : Heap} {w : World}
theorem ba2 {a b : Bool} (h : (a && b) = true) : a = true ∧ b = true := Bool.and_eq_true_iff.mp h
theorem more_of (c : SaysY h K) : standB K = true ∧ He.tupB K "WORDS" [.str ">=", .str ">", .str "!>="] = true ∧ He.eqO (PySem.W.nsIn K cStatics "thirdparty.any") (some none) = true ∧ (∀ t ∈ tabE, tellB K t = true) ∧ ∀ t ∈ xNames, xtB K t.1 t.2.1 t.2.2.1 = true := by
  obtain ⟨h1, h⟩ := ba2 c.more
  obtain ⟨h2, h⟩ := ba2 h
  obtain ⟨h3, h⟩ := ba2 h
  obtain ⟨h4, h5⟩ := ba2 h
  exact ⟨h1, h2, h3, List.all_eq_true.mp h4, List.all_eq_true.mp h5⟩
theorem glo_tab {t : Str × Str} (h : t ∈ tabE) : He.Fa.glo t.1 ∈ faX := List.mem_append_left _ (List.mem_append_right _ (List.mem_map_of_mem h))
theorem last_fa {f : He.Fa} (h : f ∈ ([.glo "WORDS", .glo "_law_told", .free "super"] : List He.Fa)) : f ∈ faX := List.mem_append_right _ h
theorem stand_of (c : SaysY h K) : ∃ (p g : Addr) (fd : FuncData), PropOf K (He.ga K "House") "standing" p g ∧ FunD K dStd.name dStd.qual dStd.params dStd.body dStd.scope [] [] g fd := by
  obtain ⟨h1, h⟩ := ba2 (more_of c).1
  obtain ⟨h2, h⟩ := ba2 h
  obtain ⟨h3, h⟩ := ba2 h
  obtain ⟨h4, h5⟩ := ba2 h
  have e := (List.cons.inj c.v).1
  obtain ⟨fd, F⟩ := fund_of e h5
  exact ⟨spA K, sgA K, fd, ⟨He.eqO_ok h1, He.eqO_ok h2, of_decide_eq_true h3, recB_ok h4⟩, F⟩
theorem x_tab : ∀ t ∈ xNames, (t.1, t.2.1) ∈ tabE := by decide +kernel
theorem x_neq : ∀ t ∈ xNames, t.2.1 ≠ "self" ∧ t.2.1 ≠ "__class__" ∧ t.2.1 ≠ "super" ∧ (t.2.1 == ("__debug__" : Str)) = false := by decide +kernel
theorem x_bind : ∀ t ∈ xNames, ∀ (q : Str) (body : List Stmt) (cl : List (Str × Addr)) (doc pm : Value) (an : Option Addr) (cda : Addr) (ct : Value) (p1 p2 : Pos) (a b : Value), bindArgs (PySem.W.fnX "__init__" q (xA t.2.1 p1 p2) body (xS t.2.1) cl .none .none doc pm an (.ref cda) ct) ⟨[a, b], []⟩ = pure [(("self" : Str), a), (t.2.1, b)] := by
  intro t ht
  unfold xNames at ht
  simp only [List.mem_cons, List.not_mem_nil, or_false] at ht
  rcases ht with e | e | e | e | e <;> subst e <;> intros <;> rfl
theorem init_of {fI C : Addr} {q : Str} {st : Stmt} {f : Str} {p1 p2 q1 q2 q3 q4 q5 q6 q7 q8 q9 q10 : Pos} {j : Nat} {msg : Str} (e : fvW K fI = fvD "__init__" q st) (hb : initB K fI C q = true) (s1 : defArgs st = xA f p1 p2) (s2 : defBody st = xB f msg j q1 q2 q3 q4 q5 q6 q7 q8 q9 q10) (s3 : defScope st = xS f) :
    ∃ (oc : Value) (od : Option Addr) (doc pm : Value) (an : Option Addr) (cda cc : Addr) (ct : Value) (osl : Array (Option Value)) (ccl : Value) (cdd : Option Addr) (vs : Array Value) (ccs : Array (Option Value)) (file : Str) (tf : Tok) (cl : Value) (cld : Option Addr) (csl : Array (Option Value)),
    K.lookup fI = some ⟨oc, od, .func (PySem.W.fnX "__init__" q (xA f p1 p2) (xB f msg j q1 q2 q3 q4 q5 q6 q7 q8 q9 q10) (xS f) [("__class__", cc)] .none .none doc pm an (.ref cda) ct), osl⟩ ∧ PySem.W.codeIn K (.ref cda) q = true ∧
    K.lookup cda = some ⟨ccl, cdd, .fields vs, ccs⟩ ∧ vs[2]? = some (.str file tf) ∧ ((PG.main.file : Str) == file) = true ∧ K.lookup cc = some ⟨cl, cld, .cell (some (.ref C)), csl⟩ := by
  unfold fvW at e
  unfold initB at hb
  cases ql : K.lookup fI with
  | none => rw [ql] at hb; cases hb
  | some o =>
    obtain ⟨oc, od, dt, osl⟩ := o
    rw [ql] at hb e
    cases dt with
    | func fd =>
      obtain ⟨n1, n2, n3, n4, n5, n6, n7, n8, n9, n10, n11, n12, n13, n14, n15⟩ := fd
      have e : (some (n1, n2, n3, n4, n5, n6, n15) : FvW) = some (("__init__" : Str), q, defArgs st, .stmts (defBody st), defScope st, mainGlobals, builtinsNs) := e
      simp only [Option.some.injEq, Prod.mk.injEq] at e
      obtain ⟨g1, g2, g3, g4, g5, g6, g8⟩ := e
      rw [s1] at g3
      rw [s2] at g4
      rw [s3] at g5
      subst g1 g2 g3 g4 g5 g6 g8
      obtain ⟨c1, hb⟩ := ba2 hb
      obtain ⟨c2, hb⟩ := ba2 hb
      have d1 : n8 = .none := noV_ok c1
      have d2 : n9 = .none := noV_ok c2
      clear c1 c2
      subst d1 d2
      obtain ⟨cda, cc, d3, d4, b2, b3, b4⟩ := cloB_ok (show cloB K C n2 n13 n7 = true from hb)
      subst d3 d4
      obtain ⟨ccl, cdd, vs, ccs, file, tf, lc, hv, hf⟩ := fileB_ok b3
      obtain ⟨cl, cld, csl, lcc⟩ := cellB_ok b4
      exact ⟨oc, od, n10, n11, n12, cda, cc, n14, osl, ccl, cdd, vs, ccs, file, tf, cl, cld, csl, rfl, b2, lc, hv, hf, lcc⟩
    | _ => cases hb
theorem xt_of (X : K.In h) (G : h.Ns mainGlobals mg) (c : SaysY h K) {t : Str × Str × Str × Nat} (ht : t ∈ xNames) : XTxt PG K mg t.1 (He.ga K t.1) (xiA K t.1) t.2.1 := by
  obtain ⟨_, _, hop, htell, hxt⟩ := more_of c
  have hx := hxt t ht
  unfold xtB at hx
  obtain ⟨h1, hx⟩ := ba2 hx
  obtain ⟨h2, hx⟩ := ba2 hx
  obtain ⟨h3, hx⟩ := ba2 hx
  obtain ⟨h4, hx⟩ := ba2 hx
  obtain ⟨h5, hx⟩ := ba2 hx
  obtain ⟨h6, hx⟩ := ba2 hx
  obtain ⟨h7, h8⟩ := ba2 hx
  have hte := htell _ (x_tab t ht)
  unfold tellB at hte
  obtain ⟨k1, hte⟩ := ba2 hte
  obtain ⟨k2, _⟩ := ba2 hte
  obtain ⟨_, XF⟩ := excCB_ok k1
  have hv := List.map_inj_left.mp (List.cons.inj c.v).2 t ht
  obtain ⟨p1, p2, q1, q2, q3, q4, q5, q6, q7, q8, q9, q10, j, msg, s1, s2, s3, pl, hpl⟩ := shapes t ht
  obtain ⟨oc, od, doc, pm, an, cda, cc, ct, osl, ccl, cdd, vs, ccs, file, tf, cl, cld, csl, i1, i2, i3, i4, i5, i6⟩ := init_of hv h8 s1 s2 s3
  obtain ⟨n1, n2, n3, n4⟩ := x_neq t ht
  exact {
    gC := He.glo_ok X G (c.d.facts (glo_tab (x_tab t ht)))
    cls := clsB_ok h1
    sa := He.eqO_ok h2
    ga := XF.ga
    gg := XF.gg
    noN := He.eqO_ok k2
    iC := He.eqO_ok h3
    tC := of_decide_eq_true h4
    kC := h5
    exC := XF.exC
    veC := of_decide_eq_true h6
    tyC := of_decide_eq_true h7
    hdC := XF.hdC
    fn := ⟨t.2.2.1, oc, od, doc, pm, an, cda, cc, ct, osl, p1, p2, q1, q2, q3, q4, q5, q6, q7, q8, q9, q10, j, msg, ccl, cdd, vs, ccs, file, tf, cl, cld, csl, i1, i2, i3, i4, i5, i6, pl, hpl⟩
    sup := He.free_ok X G (c.d.facts (last_fa (.tail _ (.tail _ (.head _)))))
    top := by decide +kernel
    opq := He.eqO_ok hop
    bd := x_bind t ht
    f1 := n1
    f2 := n2
    f3 := n3
    f4 := n4 }
theorem tx_of (X : K.In h) (G : h.Ns mainGlobals mg) (c : SaysY h K) : Tx PG K mg where
  fns := fun d hd => c.d.defs hd
  fas := fun f hf => c.d.facts (mem_fa hf)
  hp := ⟨h, X, G⟩
  stand := stand_of c
  wds := ⟨He.ga K "WORDS", He.glo_ok X G (c.d.facts (last_fa (.head _))), fun B => He.tupB_ok (more_of c).2.1 B⟩
  exc := fun t ht => by
    simp only [List.mem_cons, List.not_mem_nil, or_false] at ht
    rcases ht with e | e | e | e | e <;> subst e
    · exact ⟨_, xt_of X G c (t := ("TooMany", "limit", "TooMany.__init__", 3)) (by decide)⟩
    · exact ⟨_, xt_of X G c (t := ("BadAct", "place", "BadAct.__init__", 4)) (by decide)⟩
    · exact ⟨_, xt_of X G c (t := ("BadChoice", "place", "BadChoice.__init__", 9)) (by decide)⟩
    · exact ⟨_, xt_of X G c (t := ("NoEntry", "key", "NoEntry.__init__", 14)) (by decide)⟩
    · exact ⟨_, xt_of X G c (t := ("NoMind", "name", "NoMind.__init__", 15)) (by decide)⟩
theorem tab_of (X : K.In h) (G : h.Ns mainGlobals mg) (c : SaysY h K) : TabOk K mg (He.ga K) tabE := by
  have ht := (more_of c).2.2.2.1
  have hd : ∀ t ∈ tabE, (t.1 == ("__debug__" : Str)) = false := by decide +kernel
  have key : ∀ t ∈ tabE, ExcC K (He.ga K t.1) ∧ XfC K (He.ga K t.1) ∧ PySem.W.findIn K (.ref (He.ga K t.1)) t.2 = some none ∧ PySem.W.kitOne K (.ref (He.ga K t.1)) (.type "ValueError") = some true ∧ ∀ u ∈ tabE, PySem.W.kitOne K (.ref (He.ga K t.1)) (.ref (He.ga K u.1)) = some (u.1 == t.1) := fun t h1 => by
    have hte := ht t h1
    unfold tellB at hte
    obtain ⟨k1, hte⟩ := ba2 hte
    obtain ⟨k2, hte⟩ := ba2 hte
    obtain ⟨k3, hte⟩ := ba2 hte
    obtain ⟨k4, k5⟩ := ba2 hte
    obtain ⟨E, XF⟩ := excCB_ok k1
    exact ⟨E, XF, He.eqO_ok k2, of_decide_eq_true k3, fun u hu => of_decide_eq_true (List.all_eq_true.mp k5 u hu)⟩
  exact ⟨fun t h1 => ⟨He.glo_ok X G (c.d.facts (glo_tab h1)), hd t h1⟩, fun t h1 => ⟨(key t h1).1, (key t h1).2.1, (key t h1).2.2.1, (key t h1).2.2.2.1⟩, fun t h1 u h2 => (key t h1).2.2.2.2 u h2, by decide +kernel⟩
def tSuite : List Stmt := match dTold.body with
  | [.Try _ [.ExceptHandler _ _ s _] _ _ _] => s
  | _ => []
theorem toldSuite : Tells tabE (tSuite.drop 1) (tSuite.drop 15) := by
  unfold tabE
  repeat (first | exact Tells.nil | refine Tells.cons rfl ?_)
theorem told_of (X : K.In h) (G : h.Ns mainGlobals mg) (c : SaysY h K) : ToldK PG w K mg base tabE (He.ga K) := by
  obtain ⟨fd, F⟩ := c.d.defs (d := dTold) (by unfold fn; repeat (first | with_reducible exact List.Mem.head _ | apply List.Mem.tail))
  have T := tx_of X G c
  have hg : mg "_law_told" = some (.ref (He.ga K "_law_told")) := He.glo_ok X G (c.d.facts (last_fa (.tail _ (.head _))))
  have B := binds_of (ps := ["call"]) (show FunD K dTold.name dTold.qual dTold.params dTold.body dTold.scope [] [] (He.fAd K dTold.at_) fd from F) (fun _ _ _ _ _ _ us h => match us, h with | [_], _ => rfl)
  obtain ⟨oc, od, dV, kV, doc, pm, an, cdv, ct, osl, rfl, lk, hcd, _, _⟩ := F.ex
  have hex : ∀ t ∈ tabE, PySem.W.exmOne K (.ref (He.ga K t.1)) (.ref (He.ga K "UnsureError")) = some true := fun t h1 => by
    have hte := (more_of c).2.2.2.1 t h1
    unfold tellB at hte
    obtain ⟨_, hte⟩ := ba2 hte
    obtain ⟨_, hte⟩ := ba2 hte
    obtain ⟨_, hte⟩ := ba2 hte
    exact of_decide_eq_true (ba2 hte).1
  refine ⟨He.ga K "_law_told", dTold.params, dTold.body, dTold.scope, dV, kV, doc, pm, cdv, ct, oc, an, od, osl, hg, F.kp, lk, hcd, B, ⟨rfl, rfl, rfl, by decide +kernel, rfl, by decide +kernel, by decide +kernel⟩, Or.inl rfl, fun Xc q e1 e2 e3 e4 e5 => ?_⟩
  subst e3 e4
  refine told_ok (suite := []) (tab := tabE) (ca := He.ga Xc.K) (tab_of X G c) (T.glo (x := "UnsureError")) hex T.free T.free (toldSuite) (by decide) (by decide +kernel) ?_ ?_ ?_ ?_ ?_ ?_ ?_ rfl ?_
  all_goals rfl
end
end KK

namespace KK
open PySem PySem.Spec PyProof.Rows L2 DL
theorem tab_nil {H : Hp} {K : PySem.W.Frag} (h : H (He.tabOf K (He.codeOf K dDo.at_)) = some (.tbl #[])) : LamX.Tabs (tabT K) H := fun p hp => by
  rw [List.mem_singleton.mp hp]
  exact LamX.TabS.nil h
def noT : Option HO → Option HO
  | some (.tbl _) => none
  | o => o
def onlyB (H : Hp) (a : Addr) : Hp := fun b => if b = a then noT (H a) else none
theorem noT_some {o : Option HO} {u : HO} (h : noT o = some u) : o = some u ∧ ∀ ps, u ≠ .tbl ps := by
  unfold noT at h
  split at h
  · cases h
  · rename_i n
    exact ⟨h, fun ps z => n ps (by rw [h, z])⟩
theorem onlyB_in {H : Hp} {a : Addr} : Same (onlyB H a) H := fun b o e => by
  unfold onlyB at e
  by_cases hb : b = a
  · rw [if_pos hb] at e
    rw [hb]
    exact (noT_some e).1
  · rw [if_neg hb] at e; cases e
theorem onlyB_nt {H : Hp} {a : Addr} : ∀ b ps, onlyB H a b ≠ some (.tbl ps) := fun b ps e => by
  unfold onlyB at e
  by_cases hb : b = a
  · rw [if_pos hb] at e
    exact (noT_some e).2 ps rfl
  · rw [if_neg hb] at e; cases e
theorem onlyB_at {H : Hp} {a : Addr} {o : HO} (e : H a = some o) (n : ∀ ps, o ≠ .tbl ps) : onlyB H a a = some o := by
  unfold onlyB
  rw [if_pos rfl, e]
  unfold noT
  split
  · rename_i ps h
    exact absurd (Option.some.inj h) (n ps)
  · rfl
theorem law_at {w : World} {h : Heap} {mg : Str → Option Value} {K : PySem.W.Frag} (X : K.In h) (G : h.Ns mainGlobals mg) (c : SaysY h K) : LamX.LawAtS PySem.Challenge.rw_unsureminds_k82_all_or_none w K (L2.CX PG w) 20 63 "script" mg (He.ga K "law") h := by
  have T := tx_of X G c
  obtain ⟨fd0, F0⟩ := T.fns dLaw (by unfold fn; repeat (first | with_reducible exact List.Mem.head _ | apply List.Mem.tail))
  have F : FunD K dLaw.name dLaw.qual dLaw.params dLaw.body dLaw.scope [] [] (He.ga K "law") fd0 := F0
  have mem : (dDo.at_) ∈ tfs := List.mem_singleton.mpr rfl
  refine ⟨fd0, [He.cT K dDo.at_], (sLw K).sp K, ?_, ?_, ?_, ?_, ?_, ?_⟩
  · intro p hp
    rw [List.mem_singleton.mp hp]
    exact c.empty _ mem
  · intro p hp
    rw [List.mem_singleton.mp hp]
    exact c.out _ mem
  · intro p hp
    rw [List.mem_singleton.mp hp]
    exact PySem.W.codeHd_of_K X (c.hd _ mem)
  · intro s u
    exact FunD.bindsA (ps := ["script"]) F (fun _ _ _ _ _ _ us h => match us, h with | [_], _ => rfl) s [u] rfl
  · intro H a ns hl _ hT hS
    have hT0 := hT _ (List.mem_singleton.mpr rfl)
    refine ⟨ns, onlyB H a, onlyB_in, onlyB_nt, ?_, hl, tab_nil hT0, (fun z hz => hz.elim), ?_, ?_⟩
    · refine .cons ?_ .nil
      refine .lst (xs := ns.map V.int) ?_ (DpAll.ints ns)
      rcases hS with (h1 | ⟨o, h1⟩) | h1
      · exact .inl (.inl (onlyB_at h1 fun ps z => by cases z))
      · exact .inl (.inr ⟨o, onlyB_at h1 fun ps z => by cases z⟩)
      · exact .inr h1
    · intro r J' W' v hr S o
      have hr : r = dB true := hr
      subst hr
      exact dp_bl o
    · intro e J' W' v dd z
      exact z.elim
  · intro base KX G' TB
    have tb := TB _ (List.mem_singleton.mpr rfl)
    have B : Bx PG w K mg base := ⟨told_of X G c, tb⟩
    exact DL.fn_ok (sLw K) F fs_Lw (fun _ => rfl) (fun _ => rfl) (by decide) (b_Lw T B)
theorem law_glo {mg : Str → Option Value} {K : PySem.W.Frag} (T : Tx PG K mg) : mg "law" = some (.ref (He.ga K "law")) := T.glo
end KK
open PySem PySem.W PySem.Calls PyProof.Rows
theorem PySem.Challenge.cw_unsureminds_k82_all_or_none_holds : PySem.Challenge.rw_unsureminds_k82_all_or_none.Holds := by
  w_on; o_law
  refine HandSHeadRun.head_any (r := OpenLaw.row PySem.Challenge.rw_unsureminds_k82_all_or_none) (q := view (OpenLaw.row PySem.Challenge.rw_unsureminds_k82_all_or_none).prog [46]) (H := KK.hkY) (ob := KK.obY) (M := 8000) (loose := KK.loosE) (d := HandSHeadRun.topDef (OpenLaw.row PySem.Challenge.rw_unsureminds_k82_all_or_none).prog 46) (kwd := []) KK.obY_eq
    (by kernel_rfl) (fun s => by kernel_rfl) KK.runY (by kernel_rfl) (by kernel_rfl) (by kernel_rfl) (by rfl) (by first | assumption | decide +kernel) (by decide +kernel) ⟨rfl, rfl, rfl, rfl, rfl, by decide +kernel⟩ ?hw ?hc
  case hw => w_witness2
  case hc =>
    refine LamX.walk_ofTsE (l := PySem.Challenge.rw_unsureminds_k82_all_or_none) (n := 63) (k := 20) (x := "script") (CX := fun w => L2.CX KK.PG w) rfl (by decide) (by kernel_rfl) ⟨rfl, by decide, by decide⟩ ?F (fun w H s e s' z => ?_)
    · intro w mg fad h Y G hmg0
      obtain ⟨K, KX, c⟩ := Y
      have hmg : mg ("law" : PySem.Str) = some (.ref fad) := by
        have e : (HandSHeadRun.topDef (OpenLaw.row PySem.Challenge.rw_unsureminds_k82_all_or_none).prog 46).name = ("law" : PySem.Str) := by kernel_rfl
        rw [← e]
        exact hmg0
      have e := hmg.symm.trans (KK.law_glo (KK.tx_of KX G c))
      cases e
      exact ⟨K, KX, KK.law_at KX G c⟩
    · obtain ⟨a, B, H', cls, d, _, _, _, _, _, _, _, hE⟩ := z
      exact hE
