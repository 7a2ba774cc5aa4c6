import PyProof.Rows.All
import HandS.HeadHook4
import HandS.ForMost
import HandS.ForExc
import HandS.Conv
import HandS.HeadHook1
import HandS.Lambda
import KE.KeyNested
import PyProof.DictKind
import PyProof.DictRoadsH
import HandS.Dict
import HandS.List
import HandS.Walk
import HandS.IsInst
import HandS.Flow
import HandS.Wide
import HandS.TupAny
import HandS.Deep
import HandS.Strs
import KE.DataCmp
import KE.GoesEnum
import HandS.Zip
import HandS.Exc
import HandS.Iter
import HandS.Defaults
import HandS.DictComp
import HandS.Words
import HandS.ExcInit
import HandS.Nested
import KE.KExcSuper
import HandS.TryMany
import HandS.ExcField
import PyProof.Rows.SetFrom
import HandS.Small
import HandS.Style
import HandS.DeepEq
import KE.KOpsOwn
import PyProof.InstNe
import HandS.ListEq
import KE.KDictWalk
import HandS.ListItems
import HandS.TupLen
import PyProof.Rows.TupDisplay
import HandS.SortInts
import HandS.RaiseMore
import PyProof.EqAt
import PyProof.NeKinds
import KE.KDictList
import HandS.HeadNt
import HandS.HeadWalk
import KE.KDictPairs
import HandS.Codes
import HandS.GenOver
import HandS.GenList
import HandS.SortRule
import KE.SortData
import KE.KTryMore
import KE.KExcIs
import HandS.OwnEq
import HandS.SetFor
import HandS.Text
import HandS.HeadHook3
import KE.IntTextLaws
import HandS.Ends
import Wide.All
import OpenK.AllK
import Wide.FinOn
import KE.KStateDown
import HandS.WordsExc
import HandS.More
import HandS.Head0
import HandS.Head1
import HandS.Head2
import HandS.HeadEnd
import PySem.Challenge.RW_cookcalls_k07_hangings_refused
set_option Elab.async false
set_option linter.all false
set_option maxRecDepth 100000
set_option maxHeartbeats 0
namespace HX
open PySem L2
/-- the statements of a class -/
def inCls (st : Stmt) : List Stmt := match st with
  | .ClassDef _ _ _ b _ _ _ _ _ _ _ => b
  | _ => []
end HX
namespace ES
open PySem PySem.Spec PyProof.Rows L2
abbrev VI := "ValueError.__init__"
end ES
namespace HX
open PySem L2 He
def oexK (K : PySem.W.Frag) (C : Addr) : Bool := match K.lookup C with
  | some ⟨.type "type", _, .cls cd, sl⟩ => (match cd.mro, sl.toList with
    | .ref C' :: bm, [_, _, _, _, some (.builtin n), _] => (decide (C' = C) && decide (n = "ValueError.__new__")) && ((!cd.hasDel && cd.hasDict) && PySem.HandSPX.refsVE bm)
    | _, _ => false)
  | _ => false
def oexB (K : PySem.W.Frag) (C : Addr) : Bool := oexK K C && (decide (PySem.W.findIn K (.ref C) "__setattr__" = some (some (.builtin "object.__setattr__"))) && (decide (PySem.W.subIn K (.ref C) (.type "BaseException") = some true) && (decide (PySem.W.typeIn K (.ref C) = some (.type "type")) && PySem.W.keepIn K (.ref C))))
abbrev FnE : Type := Option (Str × Str × Arguments × FuncBody × Scope × Addr × List Str × Addr × Bool)
def plainD (fd : FuncData) : Bool := decide (fd.defaults = .none) && (decide (fd.kwdefaults = .none) && fd.annotations.isNone)
def fnE (K : PySem.W.Frag) (f : Addr) : FnE := match K.lookup f with
  | some ⟨_, _, .func fd, _⟩ => some (fd.name, fd.qualname, fd.params, fd.body, fd.scope, fd.globals, fd.closure.map (·.1), fd.builtins, plainD fd)
  | _ => none
/-- its code object, the cell of its class -/
def codB (P : Program) (K : PySem.W.Frag) (C f : Addr) (q : Str) : Bool := match K.lookup f with
  | some ⟨_, _, .func fd, _⟩ => (match fd.code with
    | .ref c => PySem.W.codeIn K (.ref c) q && (match K.lookup c with
      | some ⟨_, _, .fields vs, _⟩ => (match (vs[2]? : Option Value) with
        | some (.str fl _) => (P.main.file : Str) == fl
        | _ => false)
      | _ => false)
    | _ => false) && (match fd.closure with
    | [(_, cc)] => (match K.lookup cc with
      | some ⟨_, _, .cell (some (.ref C')), _⟩ => decide (C' = C)
      | _ => false)
    | _ => false)
  | _ => false
structure ErrD where
  x : Str
  qual : Str
  params : Arguments
  body : List Stmt
  scope : Scope
  fl : List Str
def ErrD.f (K : PySem.W.Frag) (d : ErrD) : Addr := ma K (ga K d.x) "__init__"
def ErrD.val (d : ErrD) : FnE := some ("__init__", d.qual, d.params, .stmts d.body, d.scope, mainGlobals, ["__class__"], builtinsNs, true)
def ErrD.ok (P : Program) (K : PySem.W.Frag) (d : ErrD) : Bool := (eqO (PySem.W.nsIn K mainGlobals d.x) (some (some (.ref (ga K d.x)))) && oexB K (ga K d.x)) && ((eqO (PySem.W.findIn K (.ref (ga K d.x)) "__init__") (some (some (.ref (d.f K)))) && decide (PySem.W.typeIn K (.ref (d.f K)) = some (.type "function"))) &&
  ((codB P K (ga K d.x) (d.f K) d.qual && decide (PySem.W.mroIn K (ga K d.x) (.ref (ga K d.x)) = some true)) && ((decide (PySem.W.ks_superIn K (ga K d.x) (ga K d.x) "__init__" = some (some (.builtin ES.VI))) && decide (PySem.W.subIn K (.ref (ga K d.x)) (.type "ValueError") = some true)) &&
  (eqO (PySem.W.nsIn K cStatics "thirdparty.any") (some none) && d.fl.all fun g => eqO (PySem.W.findIn K (.ref (ga K d.x)) g) (some none)))))
/-- the addresses looked at -/
def addN1 (p : List Addr × List Addr) (a : Addr) : List Addr × List Addr := match p.1.any (Nat.beq a) with
  | true => p
  | false => (a :: p.1, a :: p.2)
def leafE (o : Obj) : List Addr := match o.data with
  | .func fd => refV fd.code
  | _ => []
def kidsE (o : Obj) : List Addr := match o.data with
  | .func fd => refV fd.defaults ++ refV fd.kwdefaults ++ fd.closure.map (·.2)
  | _ => refsD o
def addL1 (p : List Addr × List Addr) (a : Addr) : List Addr × List Addr := (a :: p.1, p.2)
def bfsD (g : Addr → Option Obj) : Nat → List Addr → List Addr → List Addr
  | 0, _, seen => seen
  | n + 1, fr, seen => match fr.foldl (fun p a => match g a with
      | some o => (leafE o).foldl addL1 ((kidsE o).foldl addN1 p)
      | none => p) (seen, []) with
    | (seen', new) => bfsD g n new seen'
def asE (g : Addr → Option Obj) (n : Nat) : List Addr := bfsD g n [mainGlobals, cStatics] [mainGlobals, cStatics, sysModules]
abbrev AlE : Type := AlD × Bool × List FnE
def obsE (P : Program) (n : Nat) (fa : List Fa) (fn : List DefD) (er : List ErrD) (tf : List Defn) (ex : PySem.W.Frag → Bool) (g : Addr → Option Obj) : AlE :=
  (obsD fa fn (frT g (asE g n)), (ex (frT g (asE g n)) && er.all fun e => e.ok P (frT g (asE g n))) && tabsB g tf (frT g (asE g n)), er.map fun e => fnE (frT g (asE g n)) (e.f (frT g (asE g n))))
def valE (fn : List DefD) (er : List ErrD) : AlE := (valD fn, true, er.map ErrD.val)
def fnS (K : PySem.W.Frag) (d : He5.DefA) : He.FnW := He5.fnA K (d.at_ K)
abbrev AlS : Type := AlE × Bool × List He.FnW
def obsS (P : Program) (n : Nat) (fa : List Fa) (fn : List DefD) (er : List ErrD) (tf : List Defn) (ex : PySem.W.Frag → Bool) (sf : List He5.DefA) (g : Addr → Option Obj) : AlS :=
  (obsE P n fa fn er tf ex g, sf.all fun d => d.ok (frT g (asE g n)), sf.map (fnS (frT g (asE g n))))
def valS (fn : List DefD) (er : List ErrD) (sf : List He5.DefA) : AlS := (valE fn er, true, sf.map He5.DefA.val)
end HX
namespace DL.K07
open PySem PySem.Spec PyProof.Rows L2 HX
def top (i : Nat) : Stmt := PySem.Challenge.pw_cookcalls_k07_hangings_refused.main.body.getD i (.Pass ⟨0, 0, 0, 0⟩)
def mth (i j : Nat) : Stmt := (inCls (top i)).getD j (.Pass ⟨0, 0, 0, 0⟩)
def dF (i : Nat) (x : Str) (dfl : List He.Dv) : He.DefD := ⟨(x, none), x, x, defArgs (top i), defBody (top i), defScope (top i), dfl, []⟩
def dM (i j : Nat) (c m q : Str) (dfl : List He.Dv) : He.DefD := ⟨(c, some m), m, q, defArgs (mth i j), defBody (mth i j), defScope (mth i j), dfl, []⟩
def sf : List He5.DefA := []
def eD (i j : Nat) (x q : Str) (fl : List Str) : ErrD := ⟨x, q, defArgs (mth i j), defBody (mth i j), defScope (mth i j), fl⟩
def fn : List He.DefD := [dF 31 "_law_fresh" [], dF 41 "_law_tried" [], dF 32 "_law_take" [], dF 34 "_law_mix" [], dF 36 "_law_names" [], dF 33 "_law_one" [], dF 38 "_law_hung" [], dF 15 "is_name" [], dF 21 "is_anchor" [], dF 17 "rising" [], dF 22 "way_up" [], dF 23 "round_from" [], dF 24 "check_rounds" [], dM 25 0 "Hanging" "__init__" "Hanging.__init__" [], dF 39 "_law_is_name" [], dF 37 "_law_rising" [], dF 40 "_law_due" [], dF 35 "_law_same" [], dF 13 "is_list" [], dF 14 "is_integer" [], dF 27 "is_book_row" [], dM 29 0 "Book" "__init__" "Book.__init__" [], dF 42 "law" []]
def fa : List He.Fa := [.glo "_law_fresh", .glo "_law_tried", .glo "_law_take", .glo "_law_mix", .glo "_law_names", .glo "_law_one", .glo "_law_hung", .glo "is_name", .glo "is_anchor", .glo "rising", .glo "way_up", .glo "round_from", .glo "check_rounds", .glo "_law_is_name", .glo "_law_rising", .glo "_law_due", .glo "_law_same", .glo "is_list", .glo "is_integer", .glo "is_book_row", .glo "law", .glo "BadRow", .glo "Round", .free "abs", .free "all", .free "bool", .free "dict", .free "enumerate", .free "int", .free "isinstance", .free "len", .free "list", .free "range", .free "str", .free "super", .free "tuple", .free "zip", .str "CLOCK" "clock", .str "LETTERS" "abcdefghijklmnopqrstuvwxyz", .int "MOST_LETTERS" 8, .glo "Book", .cls "Book", .mkr "Book", .glo "Hanging", .cls "Hanging", .mkr "Hanging", .noat "Book" "pairs", .noat "Hanging" "anchors"]
def er : List ErrD := [eD 4 0 "BadRow" "BadRow.__init__" ["name"], eD 5 0 "Round" "Round.__init__" ["names"]]
def tf : List He.Defn := [("law", none)]
def ex (K : PySem.W.Frag) : Bool := xfB K (He.ga K "BadRow") && decide (PySem.W.findIn K (.ref (He.ga K "BadRow")) "name" = some none) && decide (PySem.W.exmOne K (.ref (He.ga K "BadRow")) (.ref (He.ga K "BadRow")) = some (decide (("BadRow" : Str) = "BadRow"))) && decide (PySem.W.exmOne K (.ref (He.ga K "BadRow")) (.ref (He.ga K "Round")) = some (decide (("Round" : Str) = "BadRow"))) && xfB K (He.ga K "Round") && decide (PySem.W.findIn K (.ref (He.ga K "Round")) "names" = some none) && decide (PySem.W.exmOne K (.ref (He.ga K "Round")) (.ref (He.ga K "BadRow")) = some (decide (("BadRow" : Str) = "Round"))) && decide (PySem.W.exmOne K (.ref (He.ga K "Round")) (.ref (He.ga K "Round")) = some (decide (("Round" : Str) = "Round")))
def loose : List Str := [("_wall" : Str), ("KitchenError" : Str), ("NoDish" : Str), ("BadRow" : Str), ("Round" : Str), ("TooEarly" : Str), ("BadTimes" : Str), ("UnlikeHangings" : Str), ("LETTERS" : Str), ("MOST_LETTERS" : Str), ("CLOCK" : Str), ("is_list" : Str)] ++ [("is_integer" : Str), ("is_name" : Str), ("is_among" : Str), ("rising" : Str), ("check_dish" : Str), ("is_anchor" : Str), ("way_up" : Str), ("round_from" : Str), ("check_rounds" : Str), ("Hanging" : Str), ("is_book_row" : Str), ("waiting_book" : Str)] ++ [("Book" : Str), ("_law_fresh" : Str), ("_law_take" : Str), ("_law_one" : Str), ("_law_mix" : Str), ("_law_same" : Str), ("_law_names" : Str), ("_law_rising" : Str), ("_law_hung" : Str), ("_law_is_name" : Str), ("_law_due" : Str), ("_law_tried" : Str)]
abbrev R : PySem.W.OpenRow := PySem.W.OpenLaw.row PySem.Challenge.rw_cookcalls_k07_hangings_refused
def ob (s : PySem.W.SharedT) : AlS := obsS R.prog 6 fa fn er tf ex sf (HandSHeadRun.getT s)
abbrev vw : Program := PySem.W.view R.prog [42]
noncomputable abbrev endS (w : World) (os : OsState) : Option PySem.W.SharedT := HandSHeadRun.endF (HandSHeadRun.stepQ (HandSHeadRun.denQ HandSHeadRun.tabQ) R.prog w) 20000 R.prog w os
open HandSHeadRun PySem.W in
theorem run_a (w : World) (os : OsState) : (endS w os).map (fun s => looksF R.prog (boot_heap w.params) s.abs) = some true := by
  kernel_rfl
open HandSHeadRun PySem.W in
theorem run_b (w : World) (os : OsState) : (endS w os).map (fun s => seenQ vw loose (importedModules R.prog.main.body) (fun s => xlAt vw [] s && recOk R.toRowW.records s) s.abs) = some (openGood vw loose) := by
  kernel_rfl
theorem run_c1 (w : World) (os : OsState) : (endS w os).map (fun s => (ob s).1.1.2) = some (valS fn er sf).1.1.2 := by
  kernel_rfl
theorem run_c2 (w : World) (os : OsState) : (endS w os).map (fun s => ((ob s).1.1.1, (ob s).1.2, (ob s).2)) = some ((valS fn er sf).1.1.1, (valS fn er sf).1.2, (valS fn er sf).2) := by
  kernel_rfl
end DL.K07
namespace HX
open PySem L2
end HX
namespace MD
open PySem SeqAt
/-! dicts whose keys are texts, numbers and tuples of such, side by side -/
abbrev NK := NestedKey
/-- the entries es have the keys ks, in this order -/
structure Keyed (w : World) (h : Heap) (es : Array DictEntry) (ks : List NK) : Prop where
  len : es.size = ks.length
  at_ : ∀ (i : Nat) (e : DictEntry) (k : NK), es[i]? = some e → ks[i]? = some k → e.hash = k.hash w ∧ NestedIs h k e.key
  dep : ∀ k ∈ ks, k.depth ≤ 8
  nd : ks.Nodup
section
variable {P : Program} {w : World} {A : Around} {E : Value → Shared → Prop} {s : Shared} {es : Array DictEntry} {ks : List NK} {k : NK} {key : Value} {d : Addr} {o : Obj} {ep : Nat}
/-- two keys are asked whether they are equal -/
theorem ask_eq {x y : NK} {u v : Value} {Q : Bool → Shared → Prop} (hu : A.units + 8 < cLine) (hx : NestedIs s.heap x u) (hy : NestedIs s.heap y v) (dx : x.depth ≤ 8) (h : Q (decide (x = y)) s) : wpAny (model P w) A (eqBool u v) Q E s :=
  eqAt_key x y A s u v hx hy (by omega) _ _ _ _ (by rw [← NestedKey.decide_eq]; exact h)
theorem Keyed.get (X : Keyed w s.heap es ks) {i : Nat} (hi : i < ks.length) : ∃ e k, es[i]? = some e ∧ ks[i]? = some k ∧ e.hash = k.hash w ∧ NestedIs s.heap k e.key ∧ k.depth ≤ 8 := by
  have hi' : i < es.size := by rw [X.len]; exact hi
  refine ⟨es[i], ks[i], Array.getElem?_eq_getElem hi', List.getElem?_eq_getElem hi, ?_⟩
  obtain ⟨h1, h2⟩ := X.at_ i _ _ (Array.getElem?_eq_getElem hi') (List.getElem?_eq_getElem hi)
  exact ⟨h1, h2, X.dep _ (List.getElem_mem hi)⟩
theorem one_place (hn : ks.Nodup) {i j : Nat} (hi : ks[i]? = some k) (hj : ks[j]? = some k) : i = j :=
  (List.getElem?_inj (List.getElem?_eq_some_iff.mp hi).1 hn).mp (hi.trans hj.symm)
/-- the places that are looked at -/
def plc (w : World) (es : Array DictEntry) (k : NK) : List Nat := placesWithHash es.size (fun i => es[i]?.map (·.hash)) (k.hash w)
theorem plc_iff (X : Keyed w s.heap es ks) (i : Nat) : i ∈ plc w es k ↔ ∃ x, ks[i]? = some x ∧ x.hash w = k.hash w := by
  unfold plc placesWithHash
  rw [List.mem_filter, List.mem_range]
  constructor
  · rintro ⟨h1, h2⟩
    obtain ⟨e, x, e1, e2, e3, _⟩ := X.get (i := i) (by rw [← X.len]; exact h1)
    dsimp only at h2
    rw [e1] at h2
    refine ⟨x, e2, ?_⟩
    have h3 : e.hash = k.hash w := by simpa using h2
    rw [← e3]
    exact h3
  · rintro ⟨x, h1, h2⟩
    have hl : i < ks.length := (List.getElem?_eq_some_iff.mp h1).1
    refine ⟨by rw [X.len]; exact hl, ?_⟩
    obtain ⟨e, y, e1, e2, e3, _⟩ := X.get hl
    rw [h1] at e2
    cases e2
    dsimp only
    rw [e1]
    simp [e3, h2]
theorem plc_lt (X : Keyed w s.heap es ks) {i : Nat} (h : i ∈ plc w es k) : i < ks.length := by
  obtain ⟨x, e, _⟩ := (plc_iff X i).mp h
  exact (List.getElem?_eq_some_iff.mp e).1
/-- what is told -/
def Tells (ks : List NK) (k : NK) (Q : Option Nat → Shared → Prop) (s : Shared) : Prop := ((∀ i : Nat, ks[i]? ≠ some k) → Q none s) ∧ ∀ i : Nat, ks[i]? = some k → Q (some i) s
/-- texts among texts -/
theorem by_value {x : Str} {t : Tok} {Q : Option Nat → Shared → Prop} (hu : A.units + 8 < cLine) (X : Keyed w s.heap es ks) (ho : s.heap.get? d = some o) (hd : o.data = .dict es ep) (ht : Tells ks (.text x) Q s) : wpAny (model P w) A (foundByValue d (.str x t) es x) Q E s := by
  unfold foundByValue
  cases hf : es.findIdx? (·.key.isStr x) with
  | none =>
    refine wpAny_pure (ht.1 fun i hi => ?_)
    have hl := (List.getElem?_eq_some_iff.mp hi).1
    obtain ⟨e, y, e1, e2, e3, e4, _⟩ := X.get hl
    rw [hi] at e2
    cases e2
    rw [Array.findIdx?_eq_none_iff] at hf
    have z := hf e (Array.mem_of_getElem? e1)
    generalize hk : e.key = kv at z e4
    cases e4
    simp [Value.isStr] at z
  | some i =>
    obtain ⟨hi, h1, _⟩ := Array.findIdx?_eq_some_iff_getElem.mp hf
    have hl : i < ks.length := by rw [← X.len]; exact hi
    obtain ⟨e, y, e1, e2, e3, e4, e5⟩ := X.get hl
    have ee : es[i] = e := by
      have z := Array.getElem?_eq_getElem hi
      rw [e1] at z
      exact (Option.some.inj z).symm
    have hy : y = .text x := by
      rw [ee] at h1
      generalize hk : e.key = kv at h1 e4
      cases e4 <;> simp [Value.isStr] at h1
      rw [h1]
    subst hy
    dsimp only
    rw [e1]
    dsimp only
    refine wpAny_bind (wpAny_dictEpoch ho hd (wpAny_bind (ask_eq hu e4 (.text x t) e5 (wpAny_bind (wpAny_dictEpoch ho hd ?_)))))
    rw [if_neg (by simp), decide_eq_true rfl]
    exact wpAny_bind (wpAny_rule (wpAny_pure (ht.2 i e2)))
/-- the walk where no key is an object -/
theorem by_plain {Q : Option Nat → Shared → Prop} (hu : A.units + 8 < cLine) (X : Keyed w s.heap es ks) (ho : s.heap.get? d = some o) (hd : o.data = .dict es ep) (hk : NestedIs s.heap k key) (ht : Tells ks k Q s) : wpAny (model P w) A (dictWalkPlain d key (k.hash w) es (plc w es k)) Q E s := by
  unfold dictWalkPlain
  refine wpAny_bind (wpAny_forIn_list _ (fun rest b s' => s' = s ∧ b = (none, ()) ∧ (∀ i ∈ rest, i ∈ plc w es k) ∧ ∀ i : Nat, ks[i]? = some k → i ∈ rest) _ ?_ ?_ _ _ ⟨rfl, rfl, fun _ h => h, fun i hi => (plc_iff X i).mpr ⟨k, hi, rfl⟩⟩)
  · rintro i rest b s' ⟨rfl, rfl, h1, h2⟩
    obtain ⟨e, y, e1, e2, e3, e4, e5⟩ := X.get (plc_lt X (h1 i List.mem_cons_self))
    have eh : e.hash = k.hash w := by
      obtain ⟨z, z1, z2⟩ := (plc_iff X i).mp (h1 i List.mem_cons_self)
      rw [e2] at z1
      cases z1
      rw [e3, z2]
    rw [e1]
    dsimp only
    rw [if_pos (by simp [eh])]
    refine wpAny_bind (wpAny_dictEpoch ho hd (wpAny_bind (ask_eq hu e4 hk e5 (wpAny_bind (wpAny_dictEpoch ho hd ?_)))))
    rw [if_neg (by simp)]
    by_cases hyk : y = k
    · subst hyk
      rw [decide_eq_true rfl]
      exact wpAny_bind (wpAny_rule (wpAny_pure (wpAny_pure (ht.2 i e2))))
    · rw [decide_eq_false hyk]
      refine wpAny_bind (wpAny_rule (wpAny_pure ⟨rfl, rfl, fun j hj => h1 j (List.mem_cons_of_mem _ hj), fun j hj => ?_⟩))
      rcases List.mem_cons.mp (h2 j hj) with z | z
      · subst z
        rw [e2] at hj
        exact (hyk (Option.some.inj hj)).elim
      · exact z
  · rintro b s' ⟨rfl, rfl, _, h2⟩
    exact wpAny_pure (ht.1 fun i hi => nomatch h2 i hi)
theorem quiet_list {Q : Bool → Shared → Prop} {st : List Value} (hk : NestedIs s.heap k key) (dk : k.depth ≤ 8) (hs : ∀ v ∈ st, ∃ x : NK, NestedIs s.heap x v ∧ x.depth ≤ 8) (h : Q false s) : wpAny (model P w) A (tableMayTell key st) Q E s := by
  unfold tableMayTell
  cases hst : st.isEmpty with
  | true => exact wpAny_pure h
  | false =>
    rw [if_neg (by decide)]
    refine wpAny_bind (quiet_key k key 8 s hk dk A E _ ?_)
    rw [if_neg (by decide)]
    refine wpAny_bind (wpAny_forIn_list _ (fun rest b s' => s' = s ∧ b = (none, ()) ∧ ∀ v ∈ rest, v ∈ st) _ ?_ ?_ _ _ ⟨rfl, rfl, fun _ z => z⟩)
    · rintro v rest b s' ⟨rfl, rfl, hr⟩
      obtain ⟨x, hx, dx⟩ := hs v (hr v List.mem_cons_self)
      refine wpAny_bind (quiet_key x v 8 _ hx dx A E _ ?_)
      rw [if_neg (by decide)]
      exact wpAny_pure ⟨rfl, rfl, fun u hu => hr u (List.mem_cons_of_mem _ hu)⟩
    · rintro b s' ⟨rfl, rfl, _⟩
      exact wpAny_pure h
theorem stored_keys (X : Keyed w s.heap es ks) : ∀ v ∈ (plc w es k).filterMap (fun i => es[i]?.map (·.key)), ∃ x : NK, NestedIs s.heap x v ∧ x.depth ≤ 8 := fun v hv => by
  obtain ⟨i, h1, h2⟩ := List.mem_filterMap.mp hv
  obtain ⟨e, y, e1, e2, e3, e4, e5⟩ := X.get (plc_lt X h1)
  rw [e1] at h2
  cases h2
  exact ⟨y, e4, e5⟩
theorem no_change (X : Keyed w s.heap es ks) (hk : NestedIs s.heap k key) : (es.any fun e => e.key == key && e.hash != k.hash w) = false := by
  cases hz : es.any fun e => e.key == key && e.hash != k.hash w with
  | false => rfl
  | true =>
    obtain ⟨i, hi, hc⟩ := Array.any_eq_true.mp hz
    obtain ⟨e, y, e1, e2, e3, e4, e5⟩ := X.get (i := i) (by rw [← X.len]; exact hi)
    have ee : es[i] = e := by
      have z := Array.getElem?_eq_getElem hi
      rw [e1] at z
      exact (Option.some.inj z).symm
    rw [ee] at hc
    simp only [Bool.and_eq_true, beq_iff_eq, bne_iff_ne, ne_eq] at hc
    rw [hc.1] at e4
    exact (hc.2 (by rw [e3, NestedIs.inj _ _ _ e4 hk])).elim
theorem ifw {α : Type} {c : Bool} {a b : Sem α} {Q : α → Shared → Prop} (h1 : c = true → wpAny (model P w) A a Q E s) (h2 : c = false → wpAny (model P w) A b Q E s) : wpAny (model P w) A (if c = true then a else b) Q E s := by
  cases c with
  | true => exact h1 rfl
  | false => exact h2 rfl
/-- whether the table tells: it does not -/
theorem told {α : Type} {c : Bool} {f : Bool → Sem α} {st : List Value} {Q : α → Shared → Prop} (hk : NestedIs s.heap k key) (dk : k.depth ≤ 8) (hs : ∀ v ∈ st, ∃ x : NK, NestedIs s.heap x v ∧ x.depth ≤ 8) (h : wpAny (model P w) A (f false) Q E s) : wpAny (model P w) A (if c = true then (pure false >>= f) else (tableMayTell key st >>= f)) Q E s :=
  ifw (fun _ => wpAny_bind (wpAny_pure h)) fun _ => wpAny_bind (quiet_list hk dk hs h)
theorem plc_nd : (plc w es k).Nodup := by
  unfold plc placesWithHash
  exact List.nodup_range.sublist List.filter_sublist
/-- the hits so far -/
def Hit (ks : List NK) (k : NK) (rest : List Nat) (hit : Option Nat) : Prop := (hit = none ∧ ∀ i : Nat, ks[i]? = some k → i ∈ rest) ∨ ∃ j : Nat, hit = some j ∧ ks[j]? = some k ∧ j ∉ rest
theorem Hit.skip {rest : List Nat} {i : Nat} {hit : Option Nat} (h : Hit ks k (i :: rest) hit) (hi : ks[i]? ≠ some k) : Hit ks k rest hit := by
  rcases h with ⟨e, h⟩ | ⟨j, e, h1, h2⟩
  · refine .inl ⟨e, fun l hl => ?_⟩
    rcases List.mem_cons.mp (h l hl) with z | z
    · subst z
      exact (hi hl).elim
    · exact z
  · exact .inr ⟨j, e, h1, fun z => h2 (List.mem_cons_of_mem _ z)⟩
theorem Hit.now {rest : List Nat} {i : Nat} {hit : Option Nat} (hn : ks.Nodup) (h : Hit ks k (i :: rest) hit) (hi : ks[i]? = some k) : hit = none := by
  rcases h with ⟨e, h⟩ | ⟨j, e, h1, h2⟩
  · exact e
  · exact (h2 (by rw [one_place hn h1 hi]; exact List.mem_cons_self)).elim
/-- the place of a key -/
theorem find {Q : Option Nat → Shared → Prop} (hu : A.units + 8 < cLine) (X : Keyed w s.heap es ks) (ho : s.heap.get? d = some o) (hd : o.data = .dict es ep) (hk : NestedIs s.heap k key) (dk : k.depth ≤ 8) (ht : Tells ks k Q s) : wpAny (model P w) A (dictFind d key (k.hash w)) Q E s := by
  unfold dictFind
  refine wpAny_holding (wpAny_bind (wpAny_dictEntries ho hd ?_))
  have hst := stored_keys (k := k) X
  have hch := no_change X hk
  have hk0 := hk
  cases hk
  case' text x t =>
    dsimp only
    refine ifw (fun _ => by_value hu X ho hd ht) fun _ => ?_
  case' none => dsimp only
  case' bool => dsimp only
  case' int => dsimp only
  case' tup => dsimp only
  all_goals refine ifw (fun _ => by_plain hu X ho hd hk0 ht) fun _ => ?_
  case' tup => refine ifw (fun z => by rw [hch] at z; cases z) fun _ => ?_
  all_goals
    refine told hk0 dk hst ?_
    refine ifw (fun z => by cases z) fun _ => ?_
    refine wpAny_bind (wpAny_forIn_list _ (fun rest b s' => s' = s ∧ (∀ i ∈ rest, i ∈ plc w es _) ∧ rest.Nodup ∧ ∃ hit, b = (none, hit) ∧ Hit ks _ rest hit) _ ?_ ?_ _ _ ⟨rfl, fun _ h => h, plc_nd, none, rfl, .inl ⟨rfl, fun i hi => (plc_iff X i).mpr ⟨_, hi, rfl⟩⟩⟩)
    · rintro i rest b s' ⟨rfl, h1, hnd, hit, rfl, hH⟩
      obtain ⟨e, y, e1, e2, e3, e4, e5⟩ := X.get (plc_lt X (h1 i List.mem_cons_self))
      have hr : ∀ j ∈ rest, j ∈ plc w es _ := fun j hj => h1 j (List.mem_cons_of_mem _ hj)
      have hnd' := List.nodup_cons.mp hnd
      rw [e1]
      dsimp only
      refine ifw (fun _ => ?_) fun z => ?_
      · refine wpAny_bind (wpAny_dictEpoch ho hd (wpAny_bind (ask_eq hu e4 hk0 e5 (wpAny_bind (wpAny_dictEpoch ho hd ?_)))))
        refine ifw (fun z => by simp at z) fun _ => ?_
        refine ifw (fun z => ?_) fun z => ?_
        · have hy := of_decide_eq_true z
          rw [hy] at e2
          have hn := hH.now X.nd e2
          subst hn
          refine ifw (fun z => by cases z) fun _ => ?_
          refine wpAny_bind (wpAny_rule ?_)
          split
          · exact wpAny_pure (wpAny_pure (ht.2 i e2))
          · exact wpAny_pure ⟨rfl, hr, hnd'.2, some i, rfl, .inr ⟨i, rfl, e2, hnd'.1⟩⟩
        · have hy := of_decide_eq_false z
          refine wpAny_bind (wpAny_rule ?_)
          refine ifw (fun z => by cases z) fun _ => ?_
          exact wpAny_pure ⟨rfl, hr, hnd'.2, hit, rfl, hH.skip fun z => hy (by rw [e2] at z; exact Option.some.inj z)⟩
      · refine wpAny_pure ⟨rfl, hr, hnd'.2, hit, rfl, hH.skip fun z2 => ?_⟩
        rw [e2] at z2
        cases z2
        rw [e3] at z
        simp at z
    · rintro b s' ⟨rfl, _, _, hit, rfl, hH⟩
      rcases hH with ⟨rfl, h⟩ | ⟨j, rfl, hj, _⟩
      · exact wpAny_pure (ht.1 fun i hi => nomatch h i hi)
      · exact wpAny_pure (ht.2 j hj)
end
end MD
namespace MD
open PySem SeqAt
/-- entries: the key, the key's value, the value -/
abbrev Ent := NK × Value × Value
def entE (w : World) (x : Ent) : DictEntry := ⟨x.1.hash w, x.2.1, x.2.2⟩
def lookX (xs : List Ent) (k : NK) : Option Value := (xs.find? fun x => decide (x.1 = k)).map (·.2.2)
def setX (k : NK) (v : Value) (x : Ent) : Ent := if x.1 = k then (x.1, x.2.1, v) else x
def putX (xs : List Ent) (k : NK) (kv v : Value) : List Ent := if k ∈ xs.map (·.1) then xs.map (setX k v) else xs ++ [(k, kv, v)]
/-- the dict at d -/
def Dic (w : World) (h : Heap) (d : Addr) (xs : List Ent) : Prop := ∃ (o : Obj) (es : Array DictEntry) (ep : Nat), h.get? d = some o ∧ o.ExactDict ∧ o.data = .dict es ep ∧ es.toList = xs.map (entE w) ∧ (xs.map (·.1)).Nodup
def Kok (h : Heap) (xs : List Ent) : Prop := ∀ x ∈ xs, NestedIs h x.1 x.2.1 ∧ x.1.depth ≤ 8
section
variable {P : Program} {w : World} {A : Around} {E : Value → Shared → Prop} {s : Shared} {xs : List Ent} {k : NK} {key : Value} {d : Addr}
theorem keyed {es : Array DictEntry} {h : Heap} (he : es.toList = xs.map (entE w)) (hn : (xs.map (·.1)).Nodup) (hk : Kok h xs) : Keyed w h es (xs.map (·.1)) := by
  refine ⟨by rw [← Array.length_toList, he, List.length_map, List.length_map], fun i e k h1 h2 => ?_, fun k h => ?_, hn⟩
  · rw [← Array.getElem?_toList, he, List.getElem?_map] at h1
    rw [List.getElem?_map] at h2
    cases hx : xs[i]? with
    | none => rw [hx] at h1; cases h1
    | some x =>
      rw [hx] at h1 h2
      cases h1
      cases h2
      exact ⟨rfl, (hk x (List.mem_of_getElem? hx)).1⟩
  · obtain ⟨x, hx, rfl⟩ := List.mem_map.mp h
    exact (hk x hx).2
theorem look_at (hn : (xs.map (·.1)).Nodup) {i : Nat} {x : Ent} (h : xs[i]? = some x) : lookX xs x.1 = some x.2.2 := by
  induction xs generalizing i with
  | nil => simp at h
  | cons y ys ih =>
    rw [List.map_cons, List.nodup_cons] at hn
    unfold lookX
    rw [List.find?_cons]
    cases i with
    | zero =>
      cases h
      simp
    | succ j =>
      have h' : ys[j]? = some x := h
      have ne : ¬ y.1 = x.1 := fun z => hn.1 (z ▸ List.mem_map.mpr ⟨x, List.mem_of_getElem? h', rfl⟩)
      rw [decide_eq_false ne]
      exact ih hn.2 h'
theorem look_no (h : k ∉ xs.map (·.1)) : lookX xs k = none := by
  unfold lookX
  rw [List.find?_eq_none.mpr fun x hx => by
    simp only [decide_eq_true_eq]
    exact fun z => h (List.mem_map.mpr ⟨x, hx, z⟩)]
  rfl
theorem no_at (h : ∀ i : Nat, (xs.map (·.1))[i]? ≠ some k) : k ∉ xs.map (·.1) := fun z => by
  obtain ⟨i, hi⟩ := List.mem_iff_getElem?.mp z
  exact h i hi
theorem at_of {i : Nat} (h : (xs.map (·.1))[i]? = some k) : ∃ x, xs[i]? = some x ∧ x.1 = k := by
  rw [List.getElem?_map] at h
  cases hx : xs[i]? with
  | none => rw [hx] at h; cases h
  | some x => rw [hx] at h; cases h; exact ⟨x, rfl, rfl⟩
abbrev more (s : Shared) (k : NK) : Shared := { s with toks := s.toks + k.draws }
theorem get {Q : Option Value → Shared → Prop} (hu : A.units + 8 < cLine) (hm : Dic w s.heap d xs) (hx : Kok s.heap xs) (hk : NestedIs s.heap k key) (dk : k.depth ≤ 8) (h : Q (lookX xs k) (more s k)) : wpAny (model P w) A (dictGet d key) Q E s := by
  obtain ⟨o, es, ep, ho, hc, hd, he, hn⟩ := hm
  unfold dictGet
  refine wpAny_holding (wpAny_bind (pyHash_key k key A s _ hk (by omega) (wpAny_bind (find (s := more s k) hu (keyed he hn hx) ho hd hk dk ⟨fun z => ?_, fun i hi => ?_⟩))))
  · rw [look_no (no_at z)] at h
    exact wpAny_pure h
  · obtain ⟨x, e1, rfl⟩ := at_of hi
    rw [look_at hn e1] at h
    refine wpAny_bind (wpAny_dictEntries (s := more s x.1) ho hd ?_)
    have e2 : es[i]? = some (entE w x) := by rw [← Array.getElem?_toList, he, List.getElem?_map, e1]; rfl
    rw [e2]
    exact wpAny_pure h
theorem keys_set {v : Value} (xs : List Ent) : (xs.map (setX k v)).map (·.1) = xs.map (·.1) := by
  rw [List.map_map]
  refine List.map_congr_left fun x _ => ?_
  show (setX k v x).1 = x.1
  unfold setX
  split <;> rfl
theorem set_none {v : Value} (h : k ∉ xs.map (·.1)) : xs.map (setX k v) = xs := by
  have e : ∀ x ∈ xs, setX k v x = x := fun x hx => by
    unfold setX
    rw [if_neg fun z => h (List.mem_map.mpr ⟨x, hx, z⟩)]
  rw [List.map_congr_left e, List.map_id']
theorem modify_set {v : Value} : ∀ {xs : List Ent} {i : Nat} {x : Ent}, (xs.map (·.1)).Nodup → xs[i]? = some x → (xs.map (entE w)).modify i (fun e => { e with val := v }) = (xs.map (setX x.1 v)).map (entE w)
  | [], i, x, _, h => by simp at h
  | y :: ys, 0, x, hn, h => by
    cases h
    rw [List.map_cons, List.nodup_cons] at hn
    rw [List.map_cons, List.map_cons, List.map_cons, set_none hn.1]
    have e : setX y.1 v y = (y.1, y.2.1, v) := by unfold setX; rw [if_pos rfl]
    rw [e]
    rfl
  | y :: ys, i + 1, x, hn, h => by
    rw [List.map_cons, List.nodup_cons] at hn
    have h' : ys[i]? = some x := h
    have ne : ¬ y.1 = x.1 := fun z => hn.1 (z ▸ List.mem_map.mpr ⟨x, List.mem_of_getElem? h', rfl⟩)
    rw [List.map_cons, List.map_cons, List.map_cons]
    have e : setX x.1 v y = y := by unfold setX; rw [if_neg ne]
    rw [e, List.modify_succ_cons, modify_set hn.2 h']
theorem put {v : Value} {Q : Unit → Shared → Prop} (hu : A.units + 8 < cLine) (hm : Dic w s.heap d xs) (hx : Kok s.heap xs) (hk : NestedIs s.heap k key) (dk : k.depth ≤ 8) (hl : xs.length ≤ sizeLine)
    (h : ∀ h', Dic w h' d (putX xs k key v) → Heap.SameBut d s.heap h' → Q () { s with heap := h', toks := s.toks + k.draws }) : wpAny (model P w) A (dictSet d key v) Q E s := by
  obtain ⟨o, es, ep, ho, hc, hd, he, hn⟩ := hm
  have hsz : es.size = xs.length := by rw [← Array.length_toList, he, List.length_map]
  unfold dictSet
  refine wpAny_holding (wpAny_bind (pyHash_key k key A s _ hk (by omega) ?_))
  unfold dictSetHashed
  refine wpAny_holding (wpAny_bind (find (s := more s k) hu (keyed he hn hx) ho hd hk dk ⟨fun z => ?_, fun i hi => ?_⟩))
  · have nk := no_at z
    refine wpAny_bind (wpAny_rule (wpAny_updateDictKeys (hz := by rw [hsz]; exact hl) (s := more s k) ho hd (h _ ⟨_, _, ep + 1, Heap.get?_update_self _ ho (Obj.isFreed_of_dict (Obj.data_mapDictKeys hd _)), hc.mapDictKeys _, Obj.data_mapDictKeys hd _, ?_, ?_⟩ (Heap.SameBut.update ..))))
    · unfold putX
      rw [if_neg nk, List.map_append, Array.toList_push, he]
      rfl
    · unfold putX
      rw [if_neg nk, List.map_append, List.nodup_append]
      refine ⟨hn, by simp, fun x hx y hy e => ?_⟩
      rw [List.map_cons, List.map_nil, List.mem_singleton] at hy
      subst e
      subst hy
      exact nk hx
  · obtain ⟨x, e1, rfl⟩ := at_of hi
    have ik : x.1 ∈ xs.map (·.1) := List.mem_of_getElem? hi
    refine wpAny_bind (wpAny_rule (wpAny_bind (wpAny_updateDict (s := more s x.1) ho hd (wpAny_point (h _ ⟨_, _, ep, Heap.get?_update_self _ ho (Obj.isFreed_of_dict (Obj.data_mapDict hd _)), hc.mapDict _, Obj.data_mapDict hd _, ?_, ?_⟩ (Heap.SameBut.update ..))))))
    · unfold putX
      rw [if_pos ik, ← modify_set hn e1, ← he]
      obtain ⟨l⟩ := es
      simp
    · unfold putX
      rw [if_pos ik, keys_set]
      exact hn
theorem typ (hm : Dic w s.heap d xs) : s.TypeIs (.ref d) "dict" := let ⟨o, _, _, ho, hc, _⟩ := hm; ⟨o, ho, hc.1⟩
/-- key in d -/
theorem isIn {Q : Value → Shared → Prop} (hu : A.in1.units + 8 < cLine) (hs : (d == sysModules) = false) (hm : Dic w s.heap d xs) (hx : Kok s.heap xs) (hk : NestedIs s.heap k key) (dk : k.depth ≤ 8) (h : Q (.bool (lookX xs k).isSome) (more s k)) : wpAny (model P w) A (contains (.ref d) key >>= fun b => pure (.bool b)) Q E s := by
  refine wpAny_bind ?_
  unfold contains
  refine wpAny_holding (wpAny_bind (wpAny_specialOf (typ hm) slot_dict_contains.lookup ?_))
  refine ifw (fun z => by rw [beq_builtin_none] at z; cases z) fun _ => ?_
  refine wpAny_bind (wpAny_callSpecialUnlessNone?_slot (name := Str.ofString "__contains__") (typ hm) slot_dict_contains (wpAny_call_entry slot_dict_contains (typ hm) entry_dict_contains ?_ (args_dict_contains _ _)))
  show wpAny _ _ (dictGet d key >>= _) _ _ s
  refine wpAny_bind (get hu hm hx hk dk ?_)
  cases hf : lookX xs k with
  | some p =>
    rw [hf] at h
    exact wpAny_pure ⟨_, rfl, wpAny_truthy_bool (wpAny_pure h)⟩
  | none =>
    rw [hf] at h
    exact wpAny_bind (wpAny_pendingKey_other hs (wpAny_pure ⟨_, rfl, wpAny_truthy_bool (wpAny_pure h)⟩))
/-- d[key] -/
theorem item {v : Value} {Q : Value → Shared → Prop} (hu : A.in1.units + 8 < cLine) (hm : Dic w s.heap d xs) (hx : Kok s.heap xs) (hk : NestedIs s.heap k key) (dk : k.depth ≤ 8) (hv : lookX xs k = some v) (h : Q v (more s k)) : wpAny (model P w) A (getItem (.ref d) key) Q E s := by
  unfold getItem
  refine wpAny_holding (wpAny_bind (wpAny_sequenceKey (typ hm) (by decide) ?_))
  refine wpAny_bind (wpAny_callSpecial?_slot (name := Str.ofString "__getitem__") (typ hm) slot_dict_getitem (wpAny_call_entry slot_dict_getitem (typ hm) entry_dict_getitem ?_ (args_dict_getitem _ _)))
  show wpAny _ _ (dictGet d key >>= _) _ _ s
  refine wpAny_bind (get hu hm hx hk dk ?_)
  rw [hv]
  exact wpAny_pure ⟨v, rfl, wpAny_pure h⟩
/-- d[key] = v -/
theorem setitem {v : Value} {Q : Unit → Shared → Prop} (hu : A.in1.units + 8 < cLine) (hm : Dic w s.heap d xs) (hx : Kok s.heap xs) (hk : NestedIs s.heap k key) (dk : k.depth ≤ 8) (hl : xs.length ≤ sizeLine)
    (h : ∀ h', Dic w h' d (putX xs k key v) → Heap.SameBut d s.heap h' → Q () { s with heap := h', toks := s.toks + k.draws }) : wpAny (model P w) A (setItem (.ref d) key v) Q E s := by
  unfold setItem
  refine wpAny_holding (wpAny_bind (wpAny_sequenceKey (typ hm) (by decide) ?_))
  refine wpAny_bind (wpAny_callSpecial?_slot (name := Str.ofString "__setitem__") (typ hm) slot_dict_setitem (wpAny_call_entry slot_dict_setitem (typ hm) entry_dict_setitem ?_ (args_dict_setitem _ _ _)))
  show wpAny _ _ (Builtin.Dict.notOrdered "__setitem__" ⟨[.ref d, key, v], []⟩ >>= _) _ _ s
  refine wpAny_bind (wpAny_notOrdered_dict (typ hm) ?_)
  show wpAny _ _ (dictSet d key v >>= _) _ _ s
  exact wpAny_bind (put hu hm hx hk dk hl fun h' m1 m2 => wpAny_pure ⟨.none, rfl, wpAny_pure (h h' m1 m2)⟩)
end
end MD
namespace MD
open PySem PySem.Spec PyProof.Rows L2
/-- an entry: the key, the key's value, the value, without the heap -/
abbrev EntV := NK × V × V
mutual
/-- the value v is the key k -/
def KeyV (K : PySem.W.Frag) (H : Hp) : NK → V → Prop
  | .text x, v => v = .str x
  | .num i, v => v = .int i
  | .tup ks, v => ∃ a xs, v = .ref a ∧ SqT K H a xs ∧ KeyVs K H ks xs
  | .none, v => v = .non
def KeyVs (K : PySem.W.Frag) (H : Hp) : List NK → List V → Prop
  | [], vs => vs = []
  | k :: ks, vs => ∃ v vr, vs = v :: vr ∧ KeyV K H k v ∧ KeyVs K H ks vr
end
def RelE (y : EntV) (x : Ent) : Prop := y.1 = x.1 ∧ RelV y.2.1 x.2.1 ∧ RelV y.2.2 x.2.2
/-- a dict of such keys -/
def MixP (w : World) (a : Addr) (ys : List EntV) (h : Heap) : Prop := ys.length ≤ sizeLine ∧ (a == sysModules) = false ∧ ∃ xs, Dic w h a xs ∧ Paired RelE ys xs
def MixO (w : World) (a : Addr) (ys : List EntV) : HO := .ext (MixP w a ys)
def Keys (K : PySem.W.Frag) (H : Hp) (ys : List EntV) : Prop := ∀ y ∈ ys, KeyV K H y.1 y.2.1 ∧ y.1.depth ≤ 8
def lookV (ys : List EntV) (k : NK) : Option V := (ys.find? fun y => decide (y.1 = k)).map (·.2.2)
def setV (k : NK) (v : V) (y : EntV) : EntV := if y.1 = k then (y.1, y.2.1, v) else y
def putV (ys : List EntV) (k : NK) (kv v : V) : List EntV := if k ∈ ys.map (·.1) then ys.map (setV k v) else ys ++ [(k, kv, v)]
section
variable {w : World} {h h' : Heap} {a : Addr} {ys : List EntV} {xs : List Ent} {k : NK}
theorem MixP.at' (x : MixP w a ys h) (e : ∀ o, h.get? a = some o → h'.get? a = some o) : MixP w a ys h' := by
  obtain ⟨z, z2, xs, ⟨o, es, ep, ho, r⟩, p⟩ := x
  exact ⟨z, z2, xs, ⟨o, es, ep, e o ho, r⟩, p⟩
theorem mixOk {P : Program} {H : Hp} (x : MixP w a ys h) : ObjOk P w H h a (MixO w a ys) := by
  have x' := x
  obtain ⟨z, z2, xs, ⟨o, es, ep, ho, r⟩, p⟩ := x
  exact ⟨x', ⟨o, ho⟩, fun h1 h2 q e => MixP.at' q e⟩
/-- a heap of like objects -/
def likeH (o : Obj) (n : Nat) : Heap := { objs := Array.replicate n o }
theorem like_get {o : Obj} {n : Nat} (hf : ∀ x y z, o ≠ ⟨x, y, .freed, z⟩) (b : Addr) : (likeH o n).get? b = if b < n then some o else none := by
  unfold likeH Heap.get?
  dsimp only
  rw [Array.getElem?_replicate]
  by_cases hb : b < n
  · rw [if_pos hb]
    split
    · rename_i e
      exact (hf _ _ _ (Option.some.inj e)).elim
    · rfl
  · rw [if_neg hb]
theorem mix_ne {c : Addr} {q : Str} : MixO w a ys ≠ LamX.CodeO c q := fun z => by
  unfold MixO LamX.CodeO at z
  have e := congrFun (HO.ext.inj z) (likeH { cls := .none, data := .fields #[.none, .str q 0] } (c + 1))
  have g := like_get (o := { cls := .none, data := .fields #[.none, .str q 0] }) (n := c + 1) (fun _ _ _ z => by cases z)
  have h2 : MixP w a ys (likeH { cls := .none, data := .fields #[.none, .str q 0] } (c + 1)) := by
    rw [e]
    refine ⟨_, _, 0, (g c).trans (if_pos (Nat.lt_succ_self c)), rfl, rfl⟩
  obtain ⟨_, _, xs, ⟨o, es, ep, ho, hc, hd, _⟩, _⟩ := h2
  rw [g a] at ho
  split at ho
  · cases ho
    cases hd
  · cases ho
theorem rel_keys : ∀ {ys : List EntV} {xs : List Ent}, Paired RelE ys xs → ys.map (·.1) = xs.map (·.1)
  | _, _, .nil => rfl
  | _, _, .cons r t => by rw [List.map_cons, List.map_cons, r.1, rel_keys t]
theorem rel_look : ∀ {ys : List EntV} {xs : List Ent}, Paired RelE ys xs → RelO (lookV ys k) (lookX xs k)
  | _, _, .nil => by trivial
  | _, _, .cons (a := y) (b := x) r t => by
    unfold lookV lookX
    rw [List.find?_cons, List.find?_cons, r.1]
    by_cases e : x.1 = k
    · simp only [e, decide_true]
      exact r.2.2
    · simp only [e, decide_false]
      exact rel_look t
theorem rel_set {v : V} {u : Value} (rv : RelV v u) : ∀ {ys : List EntV} {xs : List Ent}, Paired RelE ys xs → Paired RelE (ys.map (setV k v)) (xs.map (setX k u))
  | _, _, .nil => .nil
  | _, _, .cons (a := y) (b := x) r t => by
    rw [List.map_cons, List.map_cons]
    refine .cons ?_ (rel_set rv t)
    unfold setV setX
    rw [r.1]
    by_cases e : x.1 = k
    · rw [if_pos e, if_pos e]
      exact ⟨rfl, r.2.1, rv⟩
    · rw [if_neg e, if_neg e]
      exact r
theorem rel_app : ∀ {ys ys' : List EntV} {xs xs' : List Ent}, Paired RelE ys xs → Paired RelE ys' xs' → Paired RelE (ys ++ ys') (xs ++ xs')
  | _, _, _, _, .nil, q => q
  | _, _, _, _, .cons r t, q => .cons r (rel_app t q)
theorem rel_put {v kv : V} {u ku : Value} (rv : RelV v u) (rk : RelV kv ku) (r : Paired RelE ys xs) : Paired RelE (putV ys k kv v) (putX xs k ku u) := by
  unfold putV putX
  rw [rel_keys r]
  split
  · exact rel_set rv r
  · exact rel_app r (.cons ⟨rfl, rk, rv⟩ .nil)
theorem put_len {kv v : V} : (putV ys k kv v).length ≤ ys.length + 1 := by
  unfold putV
  split
  · rw [List.length_map]; omega
  · rw [List.length_append]; exact Nat.le_refl _
end
section
variable {X : Cx} {pins : List (Addr × Obj)} {σ : L2.St} {H : Hp} {s : Shared} {a : Addr}
mutual
theorem KeyV.nested (I : Inv X pins σ H s) : ∀ (k : NK) (v : V) (u : Value), KeyV X.K H k v → RelV v u → NestedIs s.heap k u
  | .text x, v, u, h, r => by
    rw [KeyV] at h
    subst h
    obtain ⟨t, rfl⟩ := r
    exact .text x t
  | .num i, v, u, h, r => by
    rw [KeyV] at h
    subst h
    obtain ⟨t, rfl⟩ := r
    exact .int i t
  | .none, v, u, h, r => by
    rw [KeyV] at h
    subst h
    cases r
    exact .none
  | .tup ks, v, u, h, r => by
    rw [KeyV] at h
    obtain ⟨a, xs, rfl, q, hk⟩ := h
    obtain rfl : u = Value.ref a := r
    obtain ⟨its, rv, ⟨o, h1, h2, n, h3⟩, _⟩ := I.tuple q
    exact .tup h1 h2 h3 (KeyVs.nested I ks xs its hk rv)
theorem KeyVs.nested (I : Inv X pins σ H s) : ∀ (ks : List NK) (vs : List V) (us : List Value), KeyVs X.K H ks vs → Vals vs us → NestedAll s.heap ks us
  | [], vs, us, h, r => by
    rw [KeyVs] at h
    subst h
    cases r
    exact .nil
  | k :: ks, vs, us, h, r => by
    rw [KeyVs] at h
    obtain ⟨v, vr, rfl, h1, h2⟩ := h
    cases r with
    | cons r1 r2 => exact .cons (KeyV.nested I k v _ h1 r1) (KeyVs.nested I ks vr _ h2 r2)
end
theorem kok_of (I : Inv X pins σ H s) {ys : List EntV} {xs : List Ent} (hk : Keys X.K H ys) (p : Paired RelE ys xs) : Kok s.heap xs := by
  induction p with
  | nil => exact fun x hx => nomatch hx
  | @cons y x ys xs r t ih =>
    intro z hz
    rcases List.mem_cons.mp hz with e | hz
    · subst e
      have := hk y List.mem_cons_self
      rw [r.1] at this
      exact ⟨KeyV.nested I _ _ _ this.1 r.2.1, this.2⟩
    · exact ih (fun y hy => hk y (List.mem_cons_of_mem _ hy)) z hz
theorem mix_rd {ys : List EntV} (I : Inv X pins σ H s) (e : Rd H a (MixO X.w a ys)) : MixP X.w a ys s.heap := (rd_of I.hok e).1
/-- what the dict holds at the key y -/
def MGet (X : Cx) (H : Hp) (a : Addr) (y : V) (o : Option V) : Prop := ∃ (ys : List EntV) (k : NK), Rd H a (MixO X.w a ys) ∧ Keys X.K H ys ∧ KeyV X.K H k y ∧ k.depth ≤ 8 ∧ o = lookV ys k
theorem m_typ (I : Inv X pins σ H s) {y : V} {o : Option V} (g : MGet X H a y o) : s.TypeIs (.ref a) "dict" := by
  obtain ⟨ys, k, e, _⟩ := g
  obtain ⟨_, _, xs, d, _⟩ := mix_rd I e
  exact typ d
theorem m_in {y : V} {u : Value} {o : Option V} {Q : Value → Shared → Prop} (hu : X.A.units + 9 < cLine) (I : Inv X pins σ H s) (g : MGet X H a y o) (ry : RelV y u) (h : ∀ s', Inv X pins σ H s' → Q (.bool o.isSome) s') : wpAny (model X.prog X.w) X.A (compareOp .In u (.ref a)) Q X.xe s := by
  obtain ⟨ys, k, e, hk, kk, dk, rfl⟩ := g
  obtain ⟨z, hs, xs, d, r⟩ := mix_rd I e
  refine isIn (by rw [Around.in1_units]; omega) hs d (kok_of I hk r) (KeyV.nested I _ _ _ kk ry) dk ?_
  rw [← (rel_look r).isSome_eq]
  exact h _ (I.tok _)
theorem m_get {y v : V} {u : Value} {Q : Value → Shared → Prop} (hu : X.A.units + 9 < cLine) (I : Inv X pins σ H s) (g : MGet X H a y (some v)) (ry : RelV y u) (h : ∀ v' s', Inv X pins σ H s' → RelV v v' → Q v' s') : wpAny (model X.prog X.w) X.A (getItem (.ref a) u) Q X.xe s := by
  obtain ⟨ys, k, e, hk, kk, dk, ev⟩ := g
  obtain ⟨z, hs, xs, d, r⟩ := mix_rd I e
  obtain ⟨v', hv, rv⟩ := RelO.some_of (v := v) (o := lookX xs k) (by rw [ev]; exact rel_look r)
  exact item (by rw [Around.in1_units]; omega) d (kok_of I hk r) (KeyV.nested I _ _ _ kk ry) dk hv (h _ _ (I.tok _) rv)
/-- the heap behind a[y] = v -/
def MPut (X : Cx) (H : Hp) (a : Addr) (y v : V) (H' : Hp) : Prop := ∃ (ys : List EntV) (k : NK), H a = some (MixO X.w a ys) ∧ Keys X.K H ys ∧ KeyV X.K H k y ∧ k.depth ≤ 8 ∧ ys.length < sizeLine ∧ H' = upd H a (MixO X.w a (putV ys k y v))
theorem m_set {y v : V} {u r : Value} {H' : Hp} {Q : Unit → Shared → Prop} (hu : X.A.units + 9 < cLine) (I : Inv X pins σ H s) (g : MPut X H a y v H') (ry : RelV y u) (rv : RelV v r) (h : ∀ s', Inv X pins σ H' s' → Q () s') : wpAny (model X.prog X.w) X.A (setItem (.ref a) u r) Q X.xe s := by
  obtain ⟨ys, k, e, hk, kk, dk, hl, rfl⟩ := g
  obtain ⟨z, hs, xs, d, p⟩ := mix_rd I (.inl e)
  have hx : xs.length ≤ sizeLine := by rw [← Paired.length p]; exact z
  refine setitem (by rw [Around.in1_units]; omega) d (kok_of I hk p) (KeyV.nested I _ _ _ kk ry) dk hx fun h' d' sb => h _ ?_
  have he : ∃ q, h'.get? a = some q := let ⟨q, _, _, hq, _⟩ := d'; ⟨q, hq⟩
  exact d_write I (by rw [e]; exact True.intro) sb he (mixOk ⟨by have := put_len (ys := ys) (k := k) (kv := y) (v := v); omega, hs, _, d', rel_put rv ry p⟩)
/-- the key of a plain dict -/
def nkK : Key → NK
  | .inl i => .num i
  | .inr x => .text x
def entK (p : Key × V) : EntV := (nkK p.1, kV p.1, p.2)
end
theorem nkK_inj : ∀ {a b : Key}, nkK a = nkK b → a = b := by
  intro a b h
  cases a <;> cases b <;> simp only [nkK, NestedKey.num.injEq, NestedKey.text.injEq, reduceCtorEq] at h
  · rw [h]
  · rw [h]
theorem nd_map {α β : Type} {f : α → β} (hf : ∀ {a b : α}, f a = f b → a = b) : ∀ {l : List α}, l.Nodup → (l.map f).Nodup
  | [], _ => List.nodup_nil
  | a :: l, h => by
    rw [List.nodup_cons] at h
    rw [List.map_cons, List.nodup_cons]
    refine ⟨fun z => ?_, nd_map hf h.2⟩
    obtain ⟨b, hb, e⟩ := List.mem_map.mp z
    exact h.1 (hf e ▸ hb)
theorem ents_of {P : Program} {w : World} : ∀ {es : List DictEntry} {vs : List (Key × Value)} {kvs : List (Key × V)}, Pairs (mixKind P w) es vs → KV kvs vs → (∀ e ∈ es, ∃ k, (mixKind P w).is k e.key = true ∧ e.hash = (mixKind P w).hash k) → ∃ xs : List Ent, es = xs.map (entE w) ∧ Paired RelE (kvs.map entK) xs
  | _, _, _, .nil, .nil, _ => ⟨[], rfl, .nil⟩
  | _, _, _, .cons (e := e) (kv := kv) h1 h2 t, .cons (a := p) r tr, hk => by
    obtain ⟨xs, e1, e2⟩ := ents_of t tr fun x hx => hk x (List.mem_cons_of_mem _ hx)
    obtain ⟨k, g1, g2⟩ := hk e List.mem_cons_self
    have ek : k = kv.1 := (mixKind P w).inj _ _ _ g1 h1
    subst ek
    obtain ⟨eh, ekey, ev⟩ := e
    dsimp only at h1 h2 g1 g2
    have hr : RelV (kV kv.1) ekey ∧ eh = (nkK kv.1).hash w := by
      rw [g2]
      rcases keyIs_shape h1 with ⟨i, t, q1, q2⟩ | ⟨x, t, q1, q2⟩
      · rw [q1, q2]; exact ⟨⟨t, rfl⟩, rfl⟩
      · rw [q1, q2]; exact ⟨⟨t, rfl⟩, rfl⟩
    refine ⟨(nkK kv.1, ekey, ev) :: xs, ?_, ?_⟩
    · rw [List.map_cons, ← e1]
      unfold entE
      rw [hr.2]
    · rw [List.map_cons]
      refine .cons ⟨by unfold entK; rw [r.1], ?_, ?_⟩ e2
      · unfold entK
        rw [r.1]
        exact hr.1
      · rw [h2]
        exact r.2
/-! rules -/
section
variable {X : Cx} {o i e value : Expr} {pos pos' tpos : Pos} {td ty tv : TE}
theorem op_mIn (hu : X.A.units + 9 < cLine) : OpR X (compareOp .In) (fun x y H Q => ∃ a o, y = .ref a ∧ MGet X H a x o ∧ Q (.bl o.isSome) H) :=
  fun _ _ _ H _ _ _ _ _ I rx ry ⟨_, o, ey, g, q⟩ => by
    subst ey
    cases ry
    exact m_in hu I g rx fun _ I' => ⟨.bl o.isSome, H, I', rfl, q⟩
def tMGet (X : Cx) (td ty : TE) : TE := fun σ H Q => td σ H fun x H1 => ty σ H1 fun y H2 => ∃ a v, x = .ref a ∧ MGet X H2 a y (some v) ∧ Q v H2
theorem pe_mget (hu : X.A.units + 9 < cLine) (ho : PE X o td) (hi : PE X i ty) (hs : NoSl i) : PE X (.Subscript o i pos) (tMGet X td ty) := by
  refine ⟨fun pins s σ H Q I h => subD_of PySem.F.slot_dict_getitem.lookup hs (thn (ho.run pins s σ H _ I h) fun u s1 ⟨x, H1, I1, rx, q1⟩ => thn (hi.run pins s1 σ H1 _ I1 q1) fun iv s2 ⟨y, H2, I2, ry, a, v, ex, g, q2⟩ => ?_)⟩
  subst ex
  obtain rfl : u = Value.ref a := rx
  exact ⟨m_typ I2 g, m_get hu I2 g ry fun v' s3 I3 rv => ⟨v, H2, I3, rv, q2⟩⟩
def sMPut (X : Cx) (td ty tv : TE) : TS := fun D σ H => tv σ H fun v H1 => td σ H1 fun x H2 => ty σ H2 fun y H3 => ∃ a H4, x = .ref a ∧ MPut X H3 a y v H4 ∧ D.nx σ H4
theorem ps_mput (hu : X.A.units + 9 < cLine) (ho : PE X o td) (hi : PE X i ty) (hv : PE X value tv) (hs : swapsWith value (some (.Subscript o i pos')) pos.line X.env = pure false) : PS X (.Assign [.Subscript o i pos'] value pos) (sMPut X td ty tv) := by
  refine ⟨fun pins s σ H D I h => wpAny_Assign_Subscript (thn (hv.run pins s σ H _ I h) fun r s1 ⟨v, H1, I1, rv, q1⟩ => thn (ho.run pins s1 σ H1 _ I1 q1) fun u s2 ⟨x, H2, I2, rx, q2⟩ => thn (hi.run pins s2 σ H2 _ I2 q2) fun iv s3 ⟨y, H3, I3, ry, a, H4, ex, g, q3⟩ => ?_) hs⟩
  subst ex
  obtain rfl : u = Value.ref a := rx
  exact m_set hu I3 g ry rv fun s4 I4 => ⟨σ, H4, I4, q3⟩
/-- a plain dict is seen as a dict of such keys -/
theorem mix_of {pins : List (Addr × Obj)} {σ : L2.St} {H : Hp} {s : Shared} {a : Addr} {kvs : List (Key × V)} (I : Inv X pins σ H s) (e : H a = some (.dK kvs)) : Inv X pins σ (upd H a (MixO X.w a (kvs.map entK))) s := by
  obtain ⟨z, hd, vs, rel, ob, es, ep, ho, hc, hdat, hk, hp, hn⟩ := dk_of I.hok e
  obtain ⟨xs, e1, e2⟩ := ents_of (P := X.prog) (w := X.w) hp rel fun e he => hk e (Array.mem_toList_iff.mp he)
  have ek : xs.map (·.1) = kvs.map fun p => nkK p.1 := by rw [← rel_keys e2, List.map_map]; rfl
  refine d_write (t' := s.toks) (h' := s.heap) I (by rw [e]; exact True.intro) ⟨rfl, fun _ _ => rfl⟩ ⟨ob, ho⟩ (mixOk ⟨by rw [List.length_map]; exact z, hd, xs, ⟨ob, es, ep, ho, hc, hdat, e1, ?_⟩, e2⟩)
  have e3 : (kvs.map fun p => nkK p.1) = (kvs.map (·.1)).map nkK := by rw [List.map_map]; rfl
  rw [ek, e3, rel.keys]
  exact nd_map nkK_inj hn
def tMix (X : Cx) (t : TE) : TE := fun σ H Q => t σ H fun x H1 => ∃ a kvs, x = .ref a ∧ H1 a = some (.dK kvs) ∧ Q x (upd H1 a (MixO X.w a (kvs.map entK)))
theorem pe_mix (h : PE X e td) : PE X e (tMix X td) := ⟨fun pins s σ H Q I q => thn (h.run pins s σ H _ I q) fun u s1 ⟨x, H1, I1, rx, a, kvs, ex, ea, q1⟩ => ⟨x, _, mix_of I1 ea, rx, q1⟩⟩
end
end MD
namespace DL
open PySem PySem.Spec PyProof.Rows L2
/-- the tables of code objects that are kept in sight: of each the name that its code objects bear -/
class TabC where
  T : List (Addr × Str)
  w : World
/-! data: a value without its addresses -/
abbrev AS := Addr → Prop
inductive D where
  | non | bl (b : Bool) | int (i : Int) | str (x : Str) | raw (v : V) | st
  | tup (xs : List D) | lst (xs : List D) | dic (kvs : List (Key × D)) | dmx (kvs : List (D × D)) | obj (C : Str) (fs : List (Str × D)) | exc (C : Str) (fs : List (Str × D))

mutual
def nkey : D → Option MD.NK
  | .str x => some (.text x)
  | .int i => some (.num i)
  | .non => some .none
  | .tup ds => (nkeys ds).map .tup
  | _ => none
def nkeys : List D → Option (List MD.NK)
  | [] => some []
  | d :: ds => (nkey d).bind fun k => (nkeys ds).map fun ks => k :: ks
end
variable [TabC]
/-- a tuple: tracked, or the module's own -/
def TpA (K : PySem.W.Frag) (H : Hp) (a : Addr) (xs : List V) : Prop :=
  H a = some (.tup xs) ∨ ∃ (o : Obj) (its : Array Value) (n : Nat), K.lookup a = some o ∧ o.cls = .type "tuple" ∧ o.data = .seq its n ∧ its.size ≤ sizeLine ∧ Vals xs its.toList
theorem TpA.sq {K : PySem.W.Frag} {H : Hp} {a : Addr} {xs : List V} (h : TpA K H a xs) : SqT K H a xs := h.elim (fun h => .inl (.inl h)) fun h => .inr h
/-- an exception object of the class cls, its dict at d, at a -/
def ExD (cls : Value) (d : Option Addr) (a : Addr) : HO := .ext fun h => ∃ (oe : Obj) (vs : Array Value), h.get? a = some oe ∧ Zc cls d oe ∧ oe.data = .fields vs
/-- an exception's dict, or an exception -/
inductive XO : HO → Prop
  | xd (ys : List (Str × V)) : XO (.xd ys)
  | ex (cls : Value) (d : Option Addr) (a : Addr) : XO (ExD cls d a)
theorem mix_neX {w : World} {a c : Addr} {ys : List MD.EntV} {cls : Value} {d : Option Addr} : MD.MixO w a ys ≠ ExD cls d c := fun z => by
  unfold MD.MixO ExD at z
  have e := congrFun (HO.ext.inj z) (MD.likeH { cls := cls, dict := d, data := .fields #[] } (c + 1))
  have g := MD.like_get (o := { cls := cls, dict := d, data := .fields #[] }) (n := c + 1) (fun _ _ _ z => by cases z)
  have h2 : MD.MixP w a ys (MD.likeH { cls := cls, dict := d, data := .fields #[] } (c + 1)) := by
    rw [e]
    exact ⟨_, _, (g c).trans (if_pos (Nat.lt_succ_self c)), ⟨rfl, rfl⟩, rfl⟩
  obtain ⟨_, _, xs, ⟨o, es, ep, ho, hc, hd, _⟩, _⟩ := h2
  rw [g a] at ho
  split at ho
  · cases ho
    cases hd
  · cases ho
theorem XO.nlst {u : HO} (h : XO u) : ∀ xs, u ≠ .lst xs := by
  cases h with
  | xd ys => exact fun _ z => nomatch z
  | ex c d a => exact fun _ z => by unfold ExD at z; cases z
theorem XO.nins {u : HO} (h : XO u) : ∀ C dx xs, u ≠ .ins C dx xs := by
  cases h with
  | xd ys => exact fun _ _ _ z => nomatch z
  | ex c d a => exact fun _ _ _ z => by unfold ExD at z; cases z
theorem XO.nfrz {u : HO} (h : XO u) : ∀ o xs, u ≠ .frz o xs := by
  cases h with
  | xd ys => exact fun _ _ z => nomatch z
  | ex c d a => exact fun _ _ z => by unfold ExD at z; cases z
theorem XO.nmix {u : HO} (h : XO u) {w : World} {a : Addr} {ys : List MD.EntV} : u ≠ MD.MixO w a ys := by
  cases h with
  | xd ys => exact fun z => by unfold MD.MixO at z; cases z
  | ex c d a => exact fun z => mix_neX z.symm
mutual
def Rep (K : PySem.W.Frag) (aS : Addr) (H : Hp) (A : AS) : D → V → Prop
  | .non, v => v = .non
  | .bl b, v => v = .bl b
  | .int i, v => v = .int i
  | .str x, v => v = .str x
  | .raw u, v => v = u
  | .st, v => v = .ref aS
  | .tup ds, v => ∃ a xs, v = .ref a ∧ TpA K H a xs ∧ RepL K aS H A ds xs
  | .lst ds, v => ∃ a xs, v = .ref a ∧ ¬ A a ∧ H a = some (.lst xs) ∧ RepL K aS H A ds xs
  | .dic kvs, v => ∃ a ys, v = .ref a ∧ ¬ A a ∧ Rd H a (.dK ys) ∧ RepK K aS H A kvs ys
  | .dmx kvs, v => ∃ a ys, v = .ref a ∧ ¬ A a ∧ Rd H a (MD.MixO TabC.w a ys) ∧ RepP K aS H A kvs ys
  | .obj C fs, v => ∃ a dx ys, v = .ref a ∧ ¬ A a ∧ H a = some (.ins (He.ga K C) dx ys) ∧ RepF K aS H A fs ys
  | .exc C fs, v => ∃ a, v = .ref a ∧ ¬ A a ∧ ((H a = some (ExD (.ref (He.ga K C)) none a) ∧ fs = []) ∨ ∃ x ys, H a = some (ExD (.ref (He.ga K C)) (some x) a) ∧ ¬ A x ∧ H x = some (.xd ys) ∧ RepF K aS H A fs ys)
def RepP (K : PySem.W.Frag) (aS : Addr) (H : Hp) (A : AS) : List (D × D) → List MD.EntV → Prop
  | [], vs => vs = []
  | (k, d) :: ds, vs => ∃ nk kv v vr, vs = (nk, kv, v) :: vr ∧ (nkey k = some nk ∧ nk.depth ≤ 8) ∧ Rep K aS H A k kv ∧ Rep K aS H A d v ∧ RepP K aS H A ds vr
def RepL (K : PySem.W.Frag) (aS : Addr) (H : Hp) (A : AS) : List D → List V → Prop
  | [], vs => vs = []
  | d :: ds, vs => ∃ v vr, vs = v :: vr ∧ Rep K aS H A d v ∧ RepL K aS H A ds vr
def RepK (K : PySem.W.Frag) (aS : Addr) (H : Hp) (A : AS) : List (Key × D) → List (Key × V) → Prop
  | [], vs => vs = []
  | (k, d) :: ds, vs => ∃ v vr, vs = (k, v) :: vr ∧ Rep K aS H A d v ∧ RepK K aS H A ds vr
def RepF (K : PySem.W.Frag) (aS : Addr) (H : Hp) (A : AS) : List (Str × D) → List (Str × V) → Prop
  | [], vs => vs = []
  | (k, d) :: ds, vs => ∃ v vr, vs = (k, v) :: vr ∧ Rep K aS H A d v ∧ RepF K aS H A ds vr
end
section
variable {K : PySem.W.Frag} {aS : Addr} {H H' : Hp} {A A' : AS}
/-- what a heap's change must keep -/
structure Sub (K : PySem.W.Frag) (H H' : Hp) (A A' : AS) : Prop where
  l : ∀ a xs, ¬ A a → H a = some (.lst xs) → ¬ A' a ∧ H' a = some (.lst xs)
  t : ∀ a xs, TpA K H a xs → TpA K H' a xs
  d : ∀ a ys, ¬ A a → Rd H a (.dK ys) → ¬ A' a ∧ Rd H' a (.dK ys)
  m : ∀ a ys, ¬ A a → Rd H a (MD.MixO TabC.w a ys) → ¬ A' a ∧ Rd H' a (MD.MixO TabC.w a ys)
  o : ∀ a C dx ys, ¬ A a → H a = some (.ins C dx ys) → ¬ A' a ∧ H' a = some (.ins C dx ys)
  x : ∀ a u, XO u → ¬ A a → H a = some u → ¬ A' a ∧ H' a = some u
mutual
theorem Rep.mono (S : Sub K H H' A A') : ∀ (d : D) (v : V), Rep K aS H A d v → Rep K aS H' A' d v
  | .non, v, h => by rw [Rep] at h ⊢; exact h
  | .bl b, v, h => by rw [Rep] at h ⊢; exact h
  | .int i, v, h => by rw [Rep] at h ⊢; exact h
  | .str x, v, h => by rw [Rep] at h ⊢; exact h
  | .raw u, v, h => by rw [Rep] at h ⊢; exact h
  | .st, v, h => by rw [Rep] at h ⊢; exact h
  | .tup ds, v, h => by
    rw [Rep] at h ⊢
    obtain ⟨a, xs, e, q, r⟩ := h
    exact ⟨a, xs, e, S.t a xs q, RepL.mono S ds xs r⟩
  | .lst ds, v, h => by
    rw [Rep] at h ⊢
    obtain ⟨a, xs, e, n, q, r⟩ := h
    obtain ⟨n', q'⟩ := S.l a xs n q
    exact ⟨a, xs, e, n', q', RepL.mono S ds xs r⟩
  | .dic kvs, v, h => by
    rw [Rep] at h ⊢
    obtain ⟨a, ys, e, n, q, r⟩ := h
    obtain ⟨n', q'⟩ := S.d a ys n q
    exact ⟨a, ys, e, n', q', RepK.mono S kvs ys r⟩
  | .dmx kvs, v, h => by
    rw [Rep] at h ⊢
    obtain ⟨a, ys, e, n, q, r⟩ := h
    obtain ⟨n', q'⟩ := S.m a ys n q
    exact ⟨a, ys, e, n', q', RepP.mono S kvs ys r⟩
  | .obj C fs, v, h => by
    rw [Rep] at h ⊢
    obtain ⟨a, dx, ys, e, n, q, r⟩ := h
    obtain ⟨n', q'⟩ := S.o a _ dx ys n q
    exact ⟨a, dx, ys, e, n', q', RepF.mono S fs ys r⟩
  | .exc C fs, v, h => by
    rw [Rep] at h ⊢
    obtain ⟨a, e, n, h⟩ := h
    rcases h with ⟨h, z⟩ | ⟨x, ys, h, nx, hx, r⟩
    · obtain ⟨n', q'⟩ := S.x a _ (.ex _ _ _) n h
      exact ⟨a, e, n', .inl ⟨q', z⟩⟩
    · obtain ⟨n', q'⟩ := S.x a _ (.ex _ _ _) n h
      obtain ⟨nx', qx'⟩ := S.x x _ (.xd ys) nx hx
      exact ⟨a, e, n', .inr ⟨x, ys, q', nx', qx', RepF.mono S fs ys r⟩⟩
theorem RepP.mono (S : Sub K H H' A A') : ∀ (ds : List (D × D)) (vs : List MD.EntV), RepP K aS H A ds vs → RepP K aS H' A' ds vs
  | [], vs, h => by rw [RepP] at h ⊢; exact h
  | (k, d) :: ds, vs, h => by
    rw [RepP] at h ⊢
    obtain ⟨nk, kv, v, vr, e, z, rk, r, q⟩ := h
    exact ⟨nk, kv, v, vr, e, z, Rep.mono S k kv rk, Rep.mono S d v r, RepP.mono S ds vr q⟩
theorem RepL.mono (S : Sub K H H' A A') : ∀ (ds : List D) (vs : List V), RepL K aS H A ds vs → RepL K aS H' A' ds vs
  | [], vs, h => by rw [RepL] at h ⊢; exact h
  | d :: ds, vs, h => by
    rw [RepL] at h ⊢
    obtain ⟨v, vr, e, r, q⟩ := h
    exact ⟨v, vr, e, Rep.mono S d v r, RepL.mono S ds vr q⟩
theorem RepK.mono (S : Sub K H H' A A') : ∀ (ds : List (Key × D)) (vs : List (Key × V)), RepK K aS H A ds vs → RepK K aS H' A' ds vs
  | [], vs, h => by rw [RepK] at h ⊢; exact h
  | (k, d) :: ds, vs, h => by
    rw [RepK] at h ⊢
    obtain ⟨v, vr, e, r, q⟩ := h
    exact ⟨v, vr, e, Rep.mono S d v r, RepK.mono S ds vr q⟩
theorem RepF.mono (S : Sub K H H' A A') : ∀ (ds : List (Str × D)) (vs : List (Str × V)), RepF K aS H A ds vs → RepF K aS H' A' ds vs
  | [], vs, h => by rw [RepF] at h ⊢; exact h
  | (k, d) :: ds, vs, h => by
    rw [RepF] at h ⊢
    obtain ⟨v, vr, e, r, q⟩ := h
    exact ⟨v, vr, e, Rep.mono S d v r, RepF.mono S ds vr q⟩
end
end
end DL
namespace DL
open PySem PySem.Spec PyProof.Rows L2
variable [TabC]
abbrev Ev := List (Option D)
/-- the tables in sight -/
def TbA (H : Hp) : Prop := LamX.Tabs TabC.T H ∧ ∀ b ps, H b = some (.tbl ps) → True
/-- grown, by no table -/
def Gr (H H' : Hp) : Prop := (∀ b u, H b = some u → H' b = some u) ∧ ∀ b ps, H' b = some (.tbl ps) → H b = some (.tbl ps)
theorem Gr.refl (H : Hp) : Gr H H := ⟨fun _ _ h => h, fun _ _ h => h⟩
theorem Gr.upd {H : Hp} {p : Addr} {o : HO} (hp : H p = none) (ho : ∀ ps, o ≠ .tbl ps := by intro _ z; cases z) : Gr H (L2.upd H p o) := ⟨fun b u e => by rw [upd_ne (ne_of_none e hp)]; exact e, fun b ps e => by
  by_cases z : b = p
  · rw [z, upd_same] at e
    exact (ho _ (Option.some.inj e)).elim
  · rw [upd_ne z] at e
    exact e⟩
theorem Gr.trans {H H' H'' : Hp} (a : Gr H H') (b : Gr H' H'') : Gr H H'' := ⟨fun c u e => b.1 c u (a.1 c u e), fun c ps e => a.2 c ps (b.2 c ps e)⟩
/-- the state of the draws -/
def StA (K : PySem.W.Frag) (aS : Addr) (H : Hp) (n : Nat) : Prop := ∃ (a0 : Addr) (cs : List Int) (i g m d : Int), H aS = some (.lst [.ref a0, .int i, .int g, .int m, .int d]) ∧ a0 ≠ aS ∧
  (∃ o, H a0 = some (.frz o (.lst (cs.map V.int)))) ∧ 0 ≤ i ∧ 0 ≤ g ∧ 0 ≤ m ∧ m < 2147483647 ∧ 0 ≤ d ∧ d ≤ n ∧ TbA H
/-- a thing stays; a table of code objects may grow -/
def Kp1 (u : HO) (o : Option HO) : Prop := match u with
  | .tbl _ => ∃ ps, o = some (.tbl ps)
  | u => o = some u
theorem Kp1.of {u : HO} {o : Option HO} (h : o = some u) : Kp1 u o := by
  cases u with
  | tbl ps => exact ⟨ps, h⟩
  | _ => exact h
theorem Kp1.dom {u : HO} {o : Option HO} (h : Kp1 u o) : ∃ v, o = some v := by
  cases u with
  | tbl ps => exact h.elim fun p e => ⟨_, e⟩
  | _ => exact ⟨_, h⟩
theorem Kp1.trans {u : HO} {o p : Option HO} (h : Kp1 u o) (k : ∀ v, o = some v → Kp1 v p) : Kp1 u p := by
  cases u with
  | tbl ps =>
    obtain ⟨p1, e⟩ := h
    have z := k _ e
    exact z
  | _ => exact k _ h
theorem Kp1.xo {u : HO} {o : Option HO} (hu : XO u) (h : Kp1 u o) : o = some u := by
  cases hu with
  | xd ys => exact h
  | ex c d a => exact h
def KpS (aS : Addr) (H H' : Hp) : Prop := ∀ b u, H b = some u → b ≠ aS → Kp1 u (H' b)
/-- an exception: its class and fields -/
abbrev XD := Str × List (Str × D)
abbrev XQ := XD → Nat → Prop
abbrev EF : XK := fun _ _ _ => False
abbrev EM (α : Type) := XQ → Ev → Nat → (α → Nat → Prop) → Prop
/-- what the caller keeps for himself; the instance that slot 0 owns, in an __init__ -/
structure A0T where
  p : Addr → Prop
  z : Option Addr := none
instance : CoeFun A0T (fun _ => Addr → Prop) := ⟨A0T.p⟩
instance : Coe A0T (Addr → Prop) := ⟨A0T.p⟩
/-- what may not be met: what the caller keeps for himself, the state, what slots own -/
def AV (aS : Addr) (A0 : AS) (O : List Nat) (σ : L2.St) : AS := fun a => A0 a ∨ a = aS ∨ ∃ i, i ∈ O ∧ σ[i]? = some (some (.ref a))
/-- an own list | dict | instance -/
def Own (K : PySem.W.Frag) (aS : Addr) (H : Hp) (A : AS) (a : Addr) : D → Prop
  | .lst ds => ∃ xs, H a = some (.lst xs) ∧ RepL K aS H A ds xs
  | .dic kvs => ∃ ys, H a = some (.dK ys) ∧ RepK K aS H A kvs ys
  | .dmx kvs => ∃ ys, H a = some (MD.MixO TabC.w a ys) ∧ RepP K aS H A kvs ys
  | .obj C fs => ∃ dx ys, H a = some (.ins (He.ga K C) dx ys) ∧ RepF K aS H A fs ys
  | _ => False
structure SR (K : PySem.W.Frag) (aS : Addr) (O : List Nat) (A0 : A0T) (H0 : Hp) (σ : L2.St) (H : Hp) (s : Ev) (n : Nat) : Prop where
  len : σ.length = s.length
  sh : ∀ i d, s[i]? = some (some d) → i ∉ O → ∃ v, σ[i]? = some (some v) ∧ Rep K aS H (AV aS A0 O σ) d v
  ow : ∀ i, i ∈ O → ∃ d a, s[i]? = some (some d) ∧ σ[i]? = some (some (.ref a)) ∧ H0 a = none ∧ ¬ A0 a ∧ a ≠ aS ∧ Own K aS H (AV aS A0 O σ) a d
  ds : ∀ i j a, i ∈ O → j ∈ O → σ[i]? = some (some (.ref a)) → σ[j]? = some (some (.ref a)) → i = j
  fr : KpS aS H0 H
  st : StA K aS H n
  av : ∀ a, A0 a → ∃ u, H a = some u
  pn : 0 ∈ O → ∀ a, A0.z = some a → σ[0]? = some (some (.ref a))
section
variable {K : PySem.W.Frag} {aS : Addr} {H H' H'' H0 : Hp} {A A' : AS} {A0 : A0T} {O : List Nat} {σ : L2.St} {s : Ev} {n n' : Nat}
theorem KpS.refl : KpS aS H H := fun _ _ h _ => .of h
theorem KpS.trans (a : KpS aS H H') (b : KpS aS H' H'') : KpS aS H H'' := fun x u h n => (a x u h n).trans fun v e => b x v e n
theorem KpS.upd {p : Addr} {o : HO} (h : H p = none) : KpS aS H (upd H p o) := fun b u e _ => .of (by rw [upd_ne (ne_of_none e h)]; exact e)
theorem tabs_poke0 {T : List (Addr × Str)} {b : Addr} {o o' : HO} (t : LamX.Tabs T H) (hb : H b = some o) (n1 : ∀ ps, o ≠ .tbl ps) (n2 : ∀ c q, o ≠ LamX.CodeO c q) : LamX.Tabs T (upd H b o') := fun p hp => by
  obtain ⟨ps, h1, h2, h3⟩ := t p hp
  refine ⟨ps, by rw [upd_ne (fun z => by rw [z, hb] at h1; exact n1 _ (Option.some.inj h1))]; exact h1, h2, fun pos cv hc => ?_⟩
  obtain ⟨c, e1, e2⟩ := h3 pos cv hc
  exact ⟨c, e1, by rw [upd_ne (fun z => by rw [z, hb] at e2; exact n2 _ _ (Option.some.inj e2))]; exact e2⟩
theorem tabs_poke {b : Addr} {o o' : HO} (t : TbA H) (hb : H b = some o) (n1 : ∀ ps, o ≠ .tbl ps) (n2 : ∀ c q, o ≠ LamX.CodeO c q) (n3 : ∀ ps, o' ≠ .tbl ps := by intro _ z; cases z) : TbA (upd H b o') := ⟨tabs_poke0 t.1 hb n1 n2, fun c ps e => by
  by_cases z : c = b
  · rw [z, upd_same] at e
    exact (n3 _ (Option.some.inj e)).elim
  · rw [upd_ne z] at e
    exact t.2 c ps e⟩
theorem Own.plain {d : D} {a : Addr} {o : HO} (h : Own K aS H A a d) (ho : H a = some o) : (∀ ps, o ≠ .tbl ps) ∧ ∀ c q, o ≠ LamX.CodeO c q := by
  cases d with
  | lst ds => obtain ⟨xs, e, q⟩ := h; rw [ho] at e; cases e; exact ⟨(fun _ z => nomatch z), (fun c q z => by unfold LamX.CodeO at z; cases z)⟩
  | dic ds => obtain ⟨xs, e, q⟩ := h; rw [ho] at e; cases e; exact ⟨(fun _ z => nomatch z), (fun c q z => by unfold LamX.CodeO at z; cases z)⟩
  | dmx ds => obtain ⟨xs, e, q⟩ := h; rw [ho] at e; cases e; exact ⟨(fun ps z => by unfold MD.MixO at z; cases z), fun c q => MD.mix_ne⟩
  | obj C ds => obtain ⟨dx, xs, e, q⟩ := h; rw [ho] at e; cases e; exact ⟨(fun _ z => nomatch z), (fun c q z => by unfold LamX.CodeO at z; cases z)⟩
  | _ => exact h.elim
theorem KpS.lst (k : KpS aS H H') {a : Addr} {xs : List V} (h : H a = some (.lst xs)) (n : a ≠ aS) : H' a = some (.lst xs) := k _ (.lst xs) h n
theorem KpS.dk (k : KpS aS H H') {a : Addr} {xs : List (Key × V)} (h : H a = some (.dK xs)) (n : a ≠ aS) : H' a = some (.dK xs) := k _ (.dK xs) h n
theorem KpS.xo (k : KpS aS H H') {a : Addr} {u : HO} (hu : XO u) (h : H a = some u) (n : a ≠ aS) : H' a = some u := Kp1.xo hu (k a u h n)
theorem KpS.upd2 (k : KpS aS H H') {p : Addr} {o : HO} (hp : H p = none) : KpS aS H (L2.upd H' p o) := fun b u e z => (k b u e z).trans fun v e' => .of (by rw [upd_ne (ne_of_none e hp)]; exact e')
theorem KpS.gone (k : KpS aS H H') {a : Addr} {u : HO} (ha : H' a = none) (z : H a = some u) (hn : a ≠ aS) : False := by
  obtain ⟨v, e⟩ := (k a u z hn).dom
  rw [ha] at e
  cases e
theorem StA.lst (h : StA K aS H n) : ∃ xs, H aS = some (.lst xs) := by
  obtain ⟨a0, cs, i, g, m, d, e, _⟩ := h
  exact ⟨_, e⟩
theorem TpA.kp (k : KpS aS H H') {a : Addr} {xs ys : List V} (hs : H aS = some (.lst ys)) (h : TpA K H a xs) : TpA K H' a xs := by
  rcases h with h | h
  · exact .inl (k _ _ h fun e => by rw [e, hs] at h; cases h)
  · exact .inr h
theorem Rd.kp (k : KpS aS H H') {a : Addr} {ys : List (Key × V)} (hn : a ≠ aS) (h : Rd H a (.dK ys)) : Rd H' a (.dK ys) := by
  rcases h with h | ⟨o, h⟩
  · exact .inl (k _ (.dK ys) h hn)
  · exact .inr ⟨o, k _ (.frz o (.dK ys)) h hn⟩
theorem RdM.kp (k : KpS aS H H') {a b : Addr} {ys : List MD.EntV} (hn : a ≠ aS) (h : Rd H a (MD.MixO TabC.w b ys)) : Rd H' a (MD.MixO TabC.w b ys) := by
  rcases h with h | ⟨o, h⟩
  · exact .inl (k _ _ h hn)
  · exact .inr ⟨o, k _ (.frz o _) h hn⟩
theorem sub_kp (k : KpS aS H H') (hs : ∃ ys, H aS = some (.lst ys)) (hA : A aS) (hle : ∀ a, A' a → A a) : Sub K H H' A A' := by
  obtain ⟨ys, hs⟩ := hs
  have ne : ∀ a, ¬ A a → a ≠ aS := fun a h e => h (e ▸ hA)
  exact ⟨fun a xs h q => ⟨fun z => h (hle a z), k _ _ q (ne a h)⟩, fun a xs q => TpA.kp k hs q, fun a ys h q => ⟨fun z => h (hle a z), Rd.kp k (ne a h) q⟩, fun a ys h q => ⟨fun z => h (hle a z), RdM.kp k (ne a h) q⟩, fun a C dx ys h q => ⟨fun z => h (hle a z), k _ _ q (ne a h)⟩, fun a u hx h q => ⟨fun z => h (hle a z), k.xo hx q (ne a h)⟩⟩
theorem AV.st {A0 : AS} : AV aS A0 O σ aS := .inr (.inl rfl)
theorem Rep.kp (k : KpS aS H H') (hs : StA K aS H n) (hA : A aS) {d : D} {v : V} (r : Rep K aS H A d v) : Rep K aS H' A d v := Rep.mono (sub_kp k hs.lst hA fun _ z => z) d v r
theorem RepL.kp (k : KpS aS H H') (hs : StA K aS H n) (hA : A aS) {d : List D} {v : List V} (r : RepL K aS H A d v) : RepL K aS H' A d v := RepL.mono (sub_kp k hs.lst hA fun _ z => z) d v r
theorem RepK.kp (k : KpS aS H H') (hs : StA K aS H n) (hA : A aS) {d : List (Key × D)} {v : List (Key × V)} (r : RepK K aS H A d v) : RepK K aS H' A d v := RepK.mono (sub_kp k hs.lst hA fun _ z => z) d v r
theorem RepF.kp (k : KpS aS H H') (hs : StA K aS H n) (hA : A aS) {d : List (Str × D)} {v : List (Str × V)} (r : RepF K aS H A d v) : RepF K aS H' A d v := RepF.mono (sub_kp k hs.lst hA fun _ z => z) d v r
theorem RepP.kp (k : KpS aS H H') (hs : StA K aS H n) (hA : A aS) {d : List (D × D)} {v : List MD.EntV} (r : RepP K aS H A d v) : RepP K aS H' A d v := RepP.mono (sub_kp k hs.lst hA fun _ z => z) d v r
theorem Own.kp (k : KpS aS H H') (hs : StA K aS H n) (hA : A aS) {d : D} {a : Addr} (ha : a ≠ aS) (r : Own K aS H A a d) : Own K aS H' A a d := by
  cases d with
  | lst ds => obtain ⟨xs, e, q⟩ := r; exact ⟨xs, k _ _ e ha, q.kp k hs hA⟩
  | dic ds => obtain ⟨xs, e, q⟩ := r; exact ⟨xs, k _ _ e ha, q.kp k hs hA⟩
  | dmx ds => obtain ⟨xs, e, q⟩ := r; exact ⟨xs, k _ _ e ha, q.kp k hs hA⟩
  | obj C ds => obtain ⟨dx, xs, e, q⟩ := r; exact ⟨dx, xs, k _ _ e ha, q.kp k hs hA⟩
  | _ => exact r
/-- behind an expression -/
theorem SR.step (S : SR K aS O A0 H0 σ H s n) (k : KpS aS H H') (t : StA K aS H' n') : SR K aS O A0 H0 σ H' s n' where
  len := S.len
  sh := fun i d h1 h2 => let ⟨v, e, r⟩ := S.sh i d h1 h2; ⟨v, e, r.kp k S.st AV.st⟩
  ow := fun i h => let ⟨d, a, e1, e2, e3, e4, e5, e6⟩ := S.ow i h; ⟨d, a, e1, e2, e3, e4, e5, e6.kp k S.st AV.st e5⟩
  ds := S.ds
  fr := S.fr.trans k
  st := t
  av := fun a h => by
    obtain ⟨u, e⟩ := S.av a h
    by_cases ha : a = aS
    · obtain ⟨xs, q⟩ := t.lst
      exact ⟨_, ha ▸ q⟩
    · exact (k _ _ e ha).dom
  pn := S.pn
theorem SR.new (S : SR K aS O A0 H0 σ H s n) {a : Addr} (h : H a = none) : ¬ AV aS A0 O σ a := fun z => by
  rcases z with z | z | ⟨i, hi, z⟩
  · obtain ⟨u, e⟩ := S.av a z
    rw [h] at e; cases e
  · obtain ⟨xs, q⟩ := S.st.lst
    rw [z, q] at h; cases h
  · obtain ⟨d, b, e1, e2, e3, e4, e5, e6⟩ := S.ow i hi
    rw [z] at e2
    cases e2
    cases d with
    | lst ds => obtain ⟨xs, e, q⟩ := e6; rw [h] at e; cases e
    | dic ds => obtain ⟨xs, e, q⟩ := e6; rw [h] at e; cases e
    | dmx ds => obtain ⟨xs, e, q⟩ := e6; rw [h] at e; cases e
    | obj C ds => obtain ⟨dx, xs, e, q⟩ := e6; rw [h] at e; cases e
    | _ => exact e6.elim
end
/-- what is wanted of a raise -/
def LX (K : PySem.W.Frag) (E : XK) (aS : Addr) (A0 : AS) (H0 : Hp) (xq : XQ) : Prop :=
  ∀ (C : Str) (fs : List (Str × D)) (n : Nat) (d : Option Addr) (H' : Hp), KpS aS H0 H' → StA K aS H' n → (match d with | none => fs = [] | some a => ∃ ys, H0 a = none ∧ H' a = some (.xd ys) ∧ RepF K aS H' (AV aS A0 [] []) fs ys) → xq (C, fs) n → E (.ref (He.ga K C)) d H'
/-- .. its own place may be owned -/
def RepB (K : PySem.W.Frag) (aS : Addr) (H : Hp) (A : AS) : D → V → Prop
  | .lst ds, v => ∃ a xs, v = .ref a ∧ a ≠ aS ∧ H a = some (.lst xs) ∧ RepL K aS H A ds xs
  | .dic kvs, v => ∃ a ys, v = .ref a ∧ a ≠ aS ∧ Rd H a (.dK ys) ∧ RepK K aS H A kvs ys
  | .dmx kvs, v => ∃ a ys, v = .ref a ∧ a ≠ aS ∧ Rd H a (MD.MixO TabC.w a ys) ∧ RepP K aS H A kvs ys
  | .obj C fs, v => ∃ a dx ys, v = .ref a ∧ a ≠ aS ∧ H a = some (.ins (He.ga K C) dx ys) ∧ RepF K aS H A fs ys
  | d, v => Rep K aS H A d v
abbrev RK := PySem.W.Frag → Addr → Hp → AS → D → V → Prop
def Mn {α : Type} (m : EM α) : Prop := ∀ xq s n (Q Q' : α → Nat → Prop), (∀ d n', Q d n' → Q' d n') → m xq s n Q → m xq s n Q'
/-- an expression read over data -/
def VX (R : RK) (X : Cx) (E : XK) (O : List Nat) (e : Expr) (m : EM D) : Prop := Mn m ∧ ∃ t, PE X e t ∧ ∀ (aS : Addr) (A0 : A0T) (H0 : Hp) (σ : L2.St) (H : Hp) (s : Ev) (n : Nat) (xq : XQ) (Q : VK), SR X.K aS O A0 H0 σ H s n → LX X.K E aS A0 H0 xq →
  m xq s n (fun d n' => ∀ v H', KpS aS H H' → StA X.K aS H' n' → R X.K aS H' (AV aS A0 O σ) d v → Q v H') → t σ H Q
abbrev VE := VX Rep
abbrev VB := VX RepB
/-- .. a new object -/
def VF (X : Cx) (E : XK) (O : List Nat) (e : Expr) (m : EM D) : Prop := Mn m ∧ ∃ t, PE X e t ∧ ∀ (aS : Addr) (A0 : A0T) (H0 : Hp) (σ : L2.St) (H : Hp) (s : Ev) (n : Nat) (xq : XQ) (Q : VK), SR X.K aS O A0 H0 σ H s n → LX X.K E aS A0 H0 xq →
  m xq s n (fun d n' => ∀ a H', H a = none → KpS aS H H' → StA X.K aS H' n' → Own X.K aS H' (fun b => AV aS A0 O σ b ∨ b = a) a d → Q (.ref a) H') → t σ H Q
/-- a test -/
def VT (X : Cx) (E : XK) (O : List Nat) (e : Expr) (m : EM Bool) : Prop := Mn m ∧ ∃ t, PT X e t ∧ ∀ (aS : Addr) (A0 : A0T) (H0 : Hp) (σ : L2.St) (H : Hp) (s : Ev) (n : Nat) (xq : XQ) (Q : Bool → Hp → Prop), SR X.K aS O A0 H0 σ H s n → LX X.K E aS A0 H0 xq →
  m xq s n (fun b n' => ∀ H', KpS aS H H' → StA X.K aS H' n' → Q b H') → t σ H Q
/-- arguments -/
def RL (R : RK) (K : PySem.W.Frag) (aS : Addr) (H : Hp) (A : AS) : List D → List V → Prop
  | [], vs => vs = []
  | d :: ds, vs => ∃ v vr, vs = v :: vr ∧ R K aS H A d v ∧ RL R K aS H A ds vr
def VA (R : RK) (X : Cx) (E : XK) (O : List Nat) (es : List Expr) (m : EM (List D)) : Prop := Mn m ∧ ∃ t, PA X es t ∧ ∀ (aS : Addr) (A0 : A0T) (H0 : Hp) (σ : L2.St) (H : Hp) (s : Ev) (n : Nat) (xq : XQ) (Q : List V → Hp → Prop), SR X.K aS O A0 H0 σ H s n → LX X.K E aS A0 H0 xq →
  m xq s n (fun d n' => ∀ v H', KpS aS H H' → StA X.K aS H' n' → RL R X.K aS H' (AV aS A0 O σ) d v → Q v H') → t σ H Q
/-- statements -/
structure DE where
  nx : Ev → Nat → Prop
  rt : D → Nat → Prop
  bk : Ev → Nat → Prop := fun _ _ => False
  ct : Ev → Nat → Prop := fun _ _ => False
abbrev SM := XQ → DE → Ev → Nat → Prop
structure LK (K : PySem.W.Frag) (aS : Addr) (O OL : List Nat) (A0 : A0T) (H0 : Hp) (de : DE) (De : Ends) : Prop where
  nx : ∀ σ H s n, SR K aS O A0 H0 σ H s n → de.nx s n → De.nx σ H
  rt : ∀ v H d n, KpS aS H0 H → StA K aS H n → Rep K aS H (AV aS A0 [] []) d v → de.rt d n → De.rt v H
  bk : ∀ σ H s n, SR K aS OL A0 H0 σ H s n → de.bk s n → De.bk σ H
  ct : ∀ σ H s n, SR K aS OL A0 H0 σ H s n → de.ct s n → De.ct σ H
def VS (X : Cx) (E : XK) (O O' OL : List Nat) (st : Stmt) (m : SM) : Prop := ∃ t, PS X st t ∧ ∀ (aS : Addr) (A0 : A0T) (H0 : Hp) (σ : L2.St) (H : Hp) (s : Ev) (n : Nat) (xq : XQ) (de : DE) (De : Ends), SR X.K aS O A0 H0 σ H s n → LX X.K E aS A0 H0 xq →
  LK X.K aS O' OL A0 H0 de De → m xq de s n → t De σ H
def VSs (X : Cx) (E : XK) (O O' OL : List Nat) (st : List Stmt) (m : SM) : Prop := ∃ t, PSs X st t ∧ ∀ (aS : Addr) (A0 : A0T) (H0 : Hp) (σ : L2.St) (H : Hp) (s : Ev) (n : Nat) (xq : XQ) (de : DE) (De : Ends), SR X.K aS O A0 H0 σ H s n → LX X.K E aS A0 H0 xq →
  LK X.K aS O' OL A0 H0 de De → m xq de s n → t De σ H
end DL
namespace DL
open PySem PySem.Spec PyProof.Rows L2
variable [TabC]
section
variable {K : PySem.W.Frag} {aS : Addr} {H H' H'' H0 : Hp} {A A' : AS} {A0 : A0T} {O : List Nat} {σ : L2.St} {s : Ev} {n n' : Nat} {R : RK}
theorem StA.kp (k : Gr H H') (h : StA K aS H n) : StA K aS H' n := by
  obtain ⟨a0, cs, i, g, m, d, e, h1, ⟨o, h2⟩, h3, h4, h5, h6, h7, h8, h9⟩ := h
  exact ⟨a0, cs, i, g, m, d, k.1 _ _ e, h1, ⟨o, k.1 _ _ h2⟩, h3, h4, h5, h6, h7, h8, h9.1.ext k.1, fun b ps z => h9.2 b ps (k.2 b ps z)⟩
theorem StA.upd {p : Addr} {o : HO} (hp : H p = none) (h : StA K aS H n) (ho : ∀ ps, o ≠ .tbl ps := by intro _ z; cases z) : StA K aS (upd H p o) n := h.kp (Gr.upd hp ho)
theorem Rep.b (hA : A aS) {d : D} {v : V} (r : Rep K aS H A d v) : RepB K aS H A d v := by
  cases d with
  | lst ds => rw [Rep] at r; obtain ⟨a, xs, e, n, q⟩ := r; exact ⟨a, xs, e, fun z => n (z ▸ hA), q⟩
  | dic ds => rw [Rep] at r; obtain ⟨a, xs, e, n, q⟩ := r; exact ⟨a, xs, e, fun z => n (z ▸ hA), q⟩
  | dmx ds => rw [Rep] at r; obtain ⟨a, xs, e, n, q⟩ := r; exact ⟨a, xs, e, fun z => n (z ▸ hA), q⟩
  | obj C ds => rw [Rep] at r; obtain ⟨a, dx, xs, e, n, q⟩ := r; exact ⟨a, dx, xs, e, fun z => n (z ▸ hA), q⟩
  | _ => exact r
theorem RepB.kp (k : KpS aS H H') (hs : StA K aS H n) (hA : A aS) {d : D} {v : V} (r : RepB K aS H A d v) : RepB K aS H' A d v := by
  cases d with
  | lst ds => obtain ⟨a, xs, e, n, q, r⟩ := r; exact ⟨a, xs, e, n, k _ _ q n, r.kp k hs hA⟩
  | dic ds => obtain ⟨a, xs, e, n, q, r⟩ := r; exact ⟨a, xs, e, n, Rd.kp k n q, r.kp k hs hA⟩
  | dmx ds => obtain ⟨a, xs, e, n, q, r⟩ := r; exact ⟨a, xs, e, n, RdM.kp k n q, r.kp k hs hA⟩
  | obj C ds => obtain ⟨a, dx, xs, e, n, q, r⟩ := r; exact ⟨a, dx, xs, e, n, k _ _ q n, r.kp k hs hA⟩
  | non => exact Rep.kp k hs hA (d := .non) r
  | bl b => exact Rep.kp k hs hA (d := .bl b) r
  | int b => exact Rep.kp k hs hA (d := .int b) r
  | str b => exact Rep.kp k hs hA (d := .str b) r
  | raw b => exact Rep.kp k hs hA (d := .raw b) r
  | st => exact Rep.kp k hs hA (d := .st) r
  | tup b => exact Rep.kp k hs hA (d := .tup b) r
  | exc C b => exact Rep.kp k hs hA (d := .exc C b) r
/-- a relation that stays behind an expression -/
def Stb (R : RK) : Prop := ∀ (K : PySem.W.Frag) (aS : Addr) (H H' : Hp) (A : AS) (n : Nat) (d : D) (v : V), KpS aS H H' → StA K aS H n → A aS → R K aS H A d v → R K aS H' A d v
theorem stbE : Stb Rep := fun _ _ _ _ _ _ _ _ k hs hA r => r.kp k hs hA
theorem stbB : Stb RepB := fun _ _ _ _ _ _ _ _ k hs hA r => r.kp k hs hA
theorem RL.repL : ∀ {ds : List D} {vs : List V}, RL Rep K aS H A ds vs → RepL K aS H A ds vs
  | [], _, h => by rw [RepL]; exact h
  | d :: ds, vs, h => by
    obtain ⟨v, vr, e, r, q⟩ := h
    rw [RepL]
    exact ⟨v, vr, e, r, RL.repL q⟩
theorem RepL.rl : ∀ {ds : List D} {vs : List V}, RepL K aS H A ds vs → RL Rep K aS H A ds vs
  | [], _, h => by rw [RepL] at h; exact h
  | d :: ds, vs, h => by
    rw [RepL] at h
    obtain ⟨v, vr, e, r, q⟩ := h
    exact ⟨v, vr, e, r, RepL.rl q⟩
theorem RepL.length : ∀ {ds : List D} {vs : List V}, RepL K aS H A ds vs → vs.length = ds.length
  | [], _, h => by rw [RepL] at h; rw [h]; rfl
  | d :: ds, vs, h => by
    rw [RepL] at h
    obtain ⟨v, vr, e, r, q⟩ := h
    rw [e, List.length_cons, List.length_cons, RepL.length q]
theorem RepL.nil : RepL K aS H A [] [] := by rw [RepL]
theorem RepL.cons {d : D} {v : V} {ds : List D} {vs : List V} (r : Rep K aS H A d v) (q : RepL K aS H A ds vs) : RepL K aS H A (d :: ds) (v :: vs) := by rw [RepL]; exact ⟨v, vs, rfl, r, q⟩
theorem RepL.app : ∀ {ds es : List D} {vs ws : List V}, RepL K aS H A ds vs → RepL K aS H A es ws → RepL K aS H A (ds ++ es) (vs ++ ws)
  | [], _, _, _, h, q => by rw [RepL] at h; rw [h]; exact q
  | d :: ds, es, vs, ws, h, q => by
    rw [RepL] at h
    obtain ⟨v, vr, e, r, q'⟩ := h
    rw [e]
    exact RepL.cons r (RepL.app q' q)
theorem RepL.get : ∀ {ds : List D} {vs : List V} {i : Nat} {d : D}, RepL K aS H A ds vs → ds[i]? = some d → ∃ v, vs[i]? = some v ∧ Rep K aS H A d v
  | [], _, _, _, _, e => by simp at e
  | d :: ds, vs, 0, d', h, e => by
    rw [RepL] at h
    obtain ⟨v, vr, e1, r, q⟩ := h
    simp at e
    subst e
    exact ⟨v, by rw [e1]; rfl, r⟩
  | d :: ds, vs, i + 1, d', h, e => by
    rw [RepL] at h
    obtain ⟨v, vr, e1, r, q⟩ := h
    obtain ⟨w, e2, r2⟩ := RepL.get (i := i) q (by simpa using e)
    exact ⟨w, by rw [e1]; simpa using e2, r2⟩
theorem RepL.get' : ∀ {ds : List D} {vs : List V} {i : Nat} {v : V}, RepL K aS H A ds vs → vs[i]? = some v → ∃ d, ds[i]? = some d ∧ Rep K aS H A d v
  | [], _, _, _, h, e => by rw [RepL] at h; rw [h] at e; simp at e
  | d :: ds, vs, 0, d', h, e => by
    rw [RepL] at h
    obtain ⟨v, vr, e1, r, q⟩ := h
    rw [e1] at e
    simp at e
    subst e
    exact ⟨d, rfl, r⟩
  | d :: ds, vs, i + 1, d', h, e => by
    rw [RepL] at h
    obtain ⟨v, vr, e1, r, q⟩ := h
    rw [e1] at e
    obtain ⟨w, e2, r2⟩ := RepL.get' (i := i) q (by simpa using e)
    exact ⟨w, by simpa using e2, r2⟩
theorem RepL.take : ∀ {ds : List D} {vs : List V} (i : Nat), RepL K aS H A ds vs → RepL K aS H A (ds.take i) (vs.take i)
  | [], _, _, h => by rw [RepL] at h; rw [h]; simp; exact RepL.nil
  | d :: ds, vs, 0, h => by simp; exact RepL.nil
  | d :: ds, vs, i + 1, h => by
    rw [RepL] at h
    obtain ⟨v, vr, e1, r, q⟩ := h
    rw [e1, List.take_succ_cons, List.take_succ_cons]
    exact RepL.cons r (RepL.take i q)
theorem RepL.drop : ∀ {ds : List D} {vs : List V} (i : Nat), RepL K aS H A ds vs → RepL K aS H A (ds.drop i) (vs.drop i)
  | [], _, _, h => by rw [RepL] at h; rw [h]; simp; exact RepL.nil
  | d :: ds, vs, 0, h => by simpa using h
  | d :: ds, vs, i + 1, h => by
    rw [RepL] at h
    obtain ⟨v, vr, e1, r, q⟩ := h
    rw [e1, List.drop_succ_cons, List.drop_succ_cons]
    exact RepL.drop i q
theorem sub_le (hle : ∀ a, A' a → A a) : Sub K H H A A' := ⟨fun a xs h q => ⟨fun z => h (hle a z), q⟩, fun a xs q => q, fun a ys h q => ⟨fun z => h (hle a z), q⟩, fun a ys h q => ⟨fun z => h (hle a z), q⟩, fun a C dx ys h q => ⟨fun z => h (hle a z), q⟩, fun a u _ h q => ⟨fun z => h (hle a z), q⟩⟩
/-- a new object at p -/
theorem sub_new {p : Addr} {o : HO} (hp : H p = none) : Sub K H (upd H p o) A (fun b => A b ∨ b = p) := by
  have ne : ∀ b u, H b = some u → b ≠ p := fun b u e => ne_of_none e hp
  have up : ∀ b u, H b = some u → upd H p o b = some u := fun b u e => by rw [upd_ne (ne b u e)]; exact e
  refine ⟨fun a xs h q => ⟨fun z => z.elim h (ne a _ q), up _ _ q⟩, fun a xs q => q.elim (fun q => .inl (up _ _ q)) .inr, fun a ys h q => ?_, fun a ys h q => ?_, fun a C dx ys h q => ⟨fun z => z.elim h (ne a _ q), up _ _ q⟩, fun a u _ h q => ⟨fun z => z.elim h (ne a _ q), up _ _ q⟩⟩
  all_goals
    rcases q with q | ⟨u, q⟩
    · exact ⟨fun z => z.elim h (ne a _ q), .inl (up _ _ q)⟩
    · exact ⟨fun z => z.elim h (ne a _ q), .inr ⟨u, up _ _ q⟩⟩
/-- a list just laid -/
theorem own_new {p : Addr} {ds : List D} {xs : List V} (hp : H p = none) (r : RepL K aS H A ds xs) : Own K aS (upd H p (.lst xs)) (fun b => A b ∨ b = p) p (.lst ds) :=
  ⟨xs, upd_same, RepL.mono (sub_new hp) _ _ r⟩
theorem own_newM {p : Addr} {ds : List (D × D)} {xs : List MD.EntV} (hp : H p = none) (r : RepP K aS H A ds xs) : Own K aS (upd H p (MD.MixO TabC.w p xs)) (fun b => A b ∨ b = p) p (.dmx ds) :=
  ⟨xs, upd_same, RepP.mono (sub_new hp) _ _ r⟩
end
/-! ### the readings -/
def eVar (i : Nat) : EM D := fun _ s n Q => ∃ d, s[i]? = some (some d) ∧ Q d n
def eC (d : D) : EM D := fun _ _ n Q => Q d n
def eNil : EM (List D) := fun _ _ n Q => Q [] n
def eCons (m : EM D) (r : EM (List D)) : EM (List D) := fun xq s n Q => m xq s n fun d n1 => r xq s n1 fun ds n2 => Q (d :: ds) n2
def eTup (m : EM (List D)) : EM D := fun xq s n Q => m xq s n fun ds n1 => ds.length ≤ 1000 ∧ Q (.tup ds) n1
def eLst (m : EM (List D)) : EM D := fun xq s n Q => m xq s n fun ds n1 => ds.length ≤ 1000 ∧ Q (.lst ds) n1
section
variable {X : Cx} {E : XK} {O : List Nat} {e : Expr} {es : List Expr} {m : EM D} {ml : EM (List D)} {pos : Pos} {R R' : RK}
theorem VX.imp (h : VX R X E O e m) (hR : ∀ K aS H A d v, A aS → R K aS H A d v → R' K aS H A d v) : VX R' X E O e m := by
  obtain ⟨mn, t, pe, f⟩ := h
  exact ⟨mn, t, pe, fun aS A0 H0 σ H s n xq Q S L hm => f aS A0 H0 σ H s n xq Q S L (mn _ _ _ _ _ (fun d n' q v H' k st r => q v H' k st (hR _ _ _ _ _ _ AV.st r)) hm)⟩
theorem VE.b (h : VE X E O e m) : VB X E O e m := VX.imp h fun _ _ _ _ _ _ hA r => r.b hA
theorem Own.mono {K : PySem.W.Frag} {aS a : Addr} {H : Hp} {A A' : AS} {d : D} (hle : ∀ b, A' b → A b) (h : Own K aS H A a d) : Own K aS H A' a d := by
  cases d with
  | lst ds => obtain ⟨xs, e, q⟩ := h; exact ⟨xs, e, RepL.mono (sub_le hle) _ _ q⟩
  | dic ds => obtain ⟨xs, e, q⟩ := h; exact ⟨xs, e, RepK.mono (sub_le hle) _ _ q⟩
  | dmx ds => obtain ⟨xs, e, q⟩ := h; exact ⟨xs, e, RepP.mono (sub_le hle) _ _ q⟩
  | obj C ds => obtain ⟨dx, xs, e, q⟩ := h; exact ⟨dx, xs, e, RepF.mono (sub_le hle) _ _ q⟩
  | _ => exact h.elim
theorem Own.rep0 {K : PySem.W.Frag} {aS a : Addr} {H : Hp} {A : AS} {d : D} (h : Own K aS H A a d) (ha : ¬ A a) : Rep K aS H A d (.ref a) := by
  cases d with
  | lst ds => obtain ⟨xs, e, q⟩ := h; rw [Rep]; exact ⟨a, xs, rfl, ha, e, q⟩
  | dic ds => obtain ⟨xs, e, q⟩ := h; rw [Rep]; exact ⟨a, xs, rfl, ha, .inl e, q⟩
  | dmx ds => obtain ⟨xs, e, q⟩ := h; rw [Rep]; exact ⟨a, xs, rfl, ha, .inl e, q⟩
  | obj C ds => obtain ⟨dx, xs, e, q⟩ := h; rw [Rep]; exact ⟨a, dx, xs, rfl, ha, e, q⟩
  | _ => exact h.elim
theorem Own.rep {K : PySem.W.Frag} {aS a : Addr} {H : Hp} {A : AS} {d : D} (h : Own K aS H (fun b => A b ∨ b = a) a d) (ha : ¬ A a) : Rep K aS H A d (.ref a) := (h.mono fun _ => .inl).rep0 ha
/-- what is not tracked is not avoided, if what is avoided is tracked -/
theorem VF.ve (h : VF X E O e m) : VE X E O e m := by
  obtain ⟨mn, t, pe, f⟩ := h
  refine ⟨mn, t, pe, fun aS A0 H0 σ H s n xq Q S L hm => f aS A0 H0 σ H s n xq Q S L (mn _ _ _ _ _ (fun d n' q a H' ha k st o => q _ H' k st (o.rep (S.new ha))) hm)⟩
theorem ve_var {i : Nat} {x : Str} (hi : i ∉ O) (hN : X.N[i]? = some x) (hv : Vis X.env.scope x) (hd : (x == ("__debug__" : Str)) = false := by decide) (hcd : (x == ("__classdict__" : Str)) = false := by decide) : VE X E O (.Name x pos) (eVar i) := by
  refine ⟨fun xq s n Q Q' hq ⟨d, e, q⟩ => ⟨d, e, hq _ _ q⟩, _, pe_var hN hv hd hcd, fun aS A0 H0 σ H s n xq Q S L hm => ?_⟩
  obtain ⟨d, e, q⟩ := hm
  obtain ⟨v, ev, r⟩ := S.sh i d e hi
  exact ⟨v, ev, q v H KpS.refl S.st r⟩
theorem vb_var {i : Nat} {x : Str} (hi : i ∈ O) (hN : X.N[i]? = some x) (hv : Vis X.env.scope x) (hd : (x == ("__debug__" : Str)) = false := by decide) (hcd : (x == ("__classdict__" : Str)) = false := by decide) : VB X E O (.Name x pos) (eVar i) := by
  refine ⟨fun xq s n Q Q' hq ⟨d, e, q⟩ => ⟨d, e, hq _ _ q⟩, _, pe_var hN hv hd hcd, fun aS A0 H0 σ H s n xq Q S L hm => ?_⟩
  obtain ⟨d, e, q⟩ := hm
  obtain ⟨d', a, e1, e2, e3, e4, e5, e6⟩ := S.ow i hi
  rw [e] at e1
  cases e1
  refine ⟨_, e2, q _ H KpS.refl S.st ?_⟩
  cases d with
  | lst ds => obtain ⟨xs, e, q⟩ := e6; exact ⟨a, xs, rfl, e5, e, q⟩
  | dic ds => obtain ⟨xs, e, q⟩ := e6; exact ⟨a, xs, rfl, e5, .inl e, q⟩
  | dmx ds => obtain ⟨xs, e, q⟩ := e6; exact ⟨a, xs, rfl, e5, .inl e, q⟩
  | obj C ds => obtain ⟨dx, xs, e, q⟩ := e6; exact ⟨a, dx, xs, rfl, e5, e, q⟩
  | _ => exact e6.elim
end
end DL
namespace DL
open PySem PySem.Spec PyProof.Rows L2
variable [TabC]
structure Cn (K : PySem.W.Frag) (aS : Addr) (H : Hp) (A : AS) (n : Nat) : Prop where
  a : A aS
  dom : ∀ a, A a → ∃ u, H a = some u
  st : StA K aS H n
theorem SR.cn {K : PySem.W.Frag} {aS : Addr} {H H0 : Hp} {A0 : A0T} {O : List Nat} {σ : L2.St} {s : Ev} {n : Nat} (S : SR K aS O A0 H0 σ H s n) : Cn K aS H (AV aS A0 O σ) n :=
  ⟨AV.st, fun a h => by
    cases e : H a with
    | none => exact (S.new e h).elim
    | some u => exact ⟨u, rfl⟩, S.st⟩
theorem Cn.new {K : PySem.W.Frag} {aS p : Addr} {H : Hp} {A : AS} {n : Nat} (c : Cn K aS H A n) (h : H p = none) : ¬ A p := fun z => by
  obtain ⟨u, e⟩ := c.dom p z
  rw [h] at e; cases e
/-- a binary operation by data -/
def OpD (X : Cx) (g : Value → Value → Sem Value) (f : D → D → Option D) : Prop := ∃ r, OpR X g r ∧ ∀ (aS : Addr) (H : Hp) (A : AS) (n : Nat) (d1 d2 d : D) (v1 v2 : V) (Q : VK), Cn X.K aS H A n → RepB X.K aS H A d1 v1 → RepB X.K aS H A d2 v2 → f d1 d2 = some d →
  (∀ v H', KpS aS H H' → StA X.K aS H' n → Rep X.K aS H' A d v → Q v H') → r v1 v2 H Q
def eBin (f : D → D → Option D) (a b : EM D) : EM D := fun xq s n Q => a xq s n fun x n1 => b xq s n1 fun y n2 => ∃ d, f x y = some d ∧ Q d n2
def eBinT (f : D → D → Option D) (a b : EM D) : EM Bool := fun xq s n Q => a xq s n fun x n1 => b xq s n1 fun y n2 => ∃ k, f x y = some (.bl k) ∧ Q k n2
def eBlt (f : List D → Option D) (a : EM (List D)) : EM D := fun xq s n Q => a xq s n fun x n1 => ∃ d, f x = some d ∧ Q d n1
/-- a call by data -/
def CallD (X : Cx) (g : Value) (f : List D → Option D) : Prop := ∃ r, CallR X g r ∧ ∀ (aS : Addr) (H : Hp) (A : AS) (n : Nat) (ds : List D) (d : D) (vs : List V) (Q : VK), Cn X.K aS H A n → RL RepB X.K aS H A ds vs → f ds = some d →
  (∀ v H', KpS aS H H' → StA X.K aS H' n → Rep X.K aS H' A d v → Q v H') → r vs H Q
def CallF (X : Cx) (g : Value) (f : List D → Option D) : Prop := ∃ r, CallR X g r ∧ ∀ (aS : Addr) (H : Hp) (A : AS) (n : Nat) (ds : List D) (d : D) (vs : List V) (Q : VK), Cn X.K aS H A n → RL RepB X.K aS H A ds vs → f ds = some d →
  (∀ a H', H a = none → KpS aS H H' → StA X.K aS H' n → Own X.K aS H' (fun b => A b ∨ b = a) a d → Q (.ref a) H') → r vs H Q
section
variable {X : Cx} {E : XK} {O : List Nat} {a b e : Expr} {es : List Expr} {ma mb m : EM D} {ml : EM (List D)} {pos : Pos} {R R' : RK}
theorem mn_bin {f : D → D → Option D} (h1 : Mn ma) (h2 : Mn mb) : Mn (eBin f ma mb) := fun xq s n Q Q' hq h => h1 _ _ _ _ _ (fun d1 n1 h => h2 _ _ _ _ _ (fun d2 n2 ⟨d, e, q⟩ => ⟨d, e, hq _ _ q⟩) h) h
theorem mn_binT {f : D → D → Option D} (h1 : Mn ma) (h2 : Mn mb) : Mn (eBinT f ma mb) := fun xq s n Q Q' hq h => h1 _ _ _ _ _ (fun d1 n1 h => h2 _ _ _ _ _ (fun d2 n2 ⟨d, e, q⟩ => ⟨d, e, hq _ _ q⟩) h) h
theorem ve_bin {op : Operator} {f : D → D → Option D} (h : OpD X (binaryOp op) f) (ha : VB X E O a ma) (hb : VB X E O b mb) : VE X E O (.BinOp a op b pos) (eBin f ma mb) := by
  obtain ⟨mna, ta, pa, fa⟩ := ha
  obtain ⟨mnb, tb, pb, fb⟩ := hb
  obtain ⟨r, ho, hr⟩ := h
  refine ⟨mn_bin mna mnb, _, pe_op ho pa pb, fun aS A0 H0 σ H s n xq Q S L hm => ?_⟩
  refine fa aS A0 H0 σ H s n xq _ S L (mna _ _ _ _ _ (fun d1 n1 q v1 H1 k1 st1 r1 => ?_) hm)
  refine fb aS A0 H0 σ H1 s n1 xq _ (S.step k1 st1) L (mnb _ _ _ _ _ (fun d2 n2 q2 v2 H2 k2 st2 r2 => ?_) q)
  obtain ⟨d, e, q2⟩ := q2
  exact hr aS H2 _ n2 d1 d2 d v1 v2 Q (S.step (k1.trans k2) st2).cn (r1.kp k2 st1 AV.st) r2 e fun v H' k st r => q2 v H' ((k1.trans k2).trans k) st r
theorem ve_cmp {op : CmpOp} {f : D → D → Option D} (h : OpD X (compareOp op) f) (ha : VB X E O a ma) (hb : VB X E O b mb) (hm : behindInMarks op b = false) : VE X E O (.Compare a [op] [b] pos) (eBin f ma mb) := by
  obtain ⟨mna, ta, pa, fa⟩ := ha
  obtain ⟨mnb, tb, pb, fb⟩ := hb
  obtain ⟨r, ho, hr⟩ := h
  refine ⟨mn_bin mna mnb, _, pe_cmpR ho pa pb hm, fun aS A0 H0 σ H s n xq Q S L hm => ?_⟩
  refine fa aS A0 H0 σ H s n xq _ S L (mna _ _ _ _ _ (fun d1 n1 q v1 H1 k1 st1 r1 => ?_) hm)
  refine fb aS A0 H0 σ H1 s n1 xq _ (S.step k1 st1) L (mnb _ _ _ _ _ (fun d2 n2 q2 v2 H2 k2 st2 r2 => ?_) q)
  obtain ⟨d, e, q2⟩ := q2
  exact hr aS H2 _ n2 d1 d2 d v1 v2 Q (S.step (k1.trans k2) st2).cn (r1.kp k2 st1 AV.st) r2 e fun v H' k st r => q2 v H' ((k1.trans k2).trans k) st r
theorem vt_cmp {op : CmpOp} {f : D → D → Option D} (h : OpD X (compareOp op) f) (ha : VB X E O a ma) (hb : VB X E O b mb) (hm : behindInMarks op b = false) : VT X E O (.Compare a [op] [b] pos) (eBinT f ma mb) := by
  obtain ⟨mna, ta, pa, fa⟩ := ha
  obtain ⟨mnb, tb, pb, fb⟩ := hb
  obtain ⟨r, ho, hr⟩ := h
  refine ⟨mn_binT mna mnb, _, pt_cmpR ho pa pb hm, fun aS A0 H0 σ H s n xq Q S L hm => ?_⟩
  refine fa aS A0 H0 σ H s n xq _ S L (mna _ _ _ _ _ (fun d1 n1 q v1 H1 k1 st1 r1 => ?_) hm)
  refine fb aS A0 H0 σ H1 s n1 xq _ (S.step k1 st1) L (mnb _ _ _ _ _ (fun d2 n2 q2 v2 H2 k2 st2 r2 => ?_) q)
  obtain ⟨c, e, q2⟩ := q2
  refine hr aS H2 _ n2 d1 d2 _ v1 v2 _ (S.step (k1.trans k2) st2).cn (r1.kp k2 st1 AV.st) r2 e fun v H' k st r => ?_
  rw [Rep] at r
  exact ⟨c, r, q2 H' ((k1.trans k2).trans k) st⟩
theorem va_nil : VA R X E O [] eNil := ⟨fun xq s n Q Q' hq h => hq _ _ h, _, pa_nil, fun aS A0 H0 σ H s n xq Q S L hm => hm [] H KpS.refl S.st rfl⟩
theorem mn_cons {m : EM D} {r : EM (List D)} (h1 : Mn m) (h2 : Mn r) : Mn (eCons m r) := fun xq s n Q Q' hq h => h1 _ _ _ _ _ (fun d1 n1 h => h2 _ _ _ _ _ (fun d2 n2 q => hq _ _ q) h) h
theorem va_cons (hR : Stb R) (he : VX R X E O e m) (hr : VA R X E O es ml) (hs : starEach (e :: es) X.env = (false, eval e X.env) :: starEach es X.env := by rfl) : VA R X E O (e :: es) (eCons m ml) := by
  obtain ⟨mna, ta, pa, fa⟩ := he
  obtain ⟨mnb, tb, pb, fb⟩ := hr
  refine ⟨mn_cons mna mnb, _, pa_cons pa pb hs, fun aS A0 H0 σ H s n xq Q S L hm => ?_⟩
  refine fa aS A0 H0 σ H s n xq _ S L (mna _ _ _ _ _ (fun d1 n1 q v1 H1 k1 st1 r1 => ?_) hm)
  refine fb aS A0 H0 σ H1 s n1 xq _ (S.step k1 st1) L (mnb _ _ _ _ _ (fun d2 n2 q2 v2 H2 k2 st2 r2 => ?_) q)
  exact q2 _ H2 (k1.trans k2) st2 ⟨v1, v2, rfl, hR _ _ _ _ _ _ _ _ k2 st1 AV.st r1, r2⟩
theorem mn_blt {f : List D → Option D} (h : Mn ml) : Mn (eBlt f ml) := fun xq s n Q Q' hq w => h _ _ _ _ _ (fun ds n1 ⟨d, e, q⟩ => ⟨d, e, hq _ _ q⟩) w
theorem ve_callB {x : Str} {id : String} {p : Pos} {f : List D → Option D} (h : CallD X (.builtin id) f) (hg : Gl X x) (hm : X.mg x = none) (hv : bootBuiltins x = some (.builtin id)) (ha : VA RepB X E O (e :: es) ml) (hn : x ≠ "__name__" := by decide) (hdb : (x == ("__debug__" : Str)) = false := by decide)
    (hs : starEach (e :: es) X.env = (false, eval e X.env) :: starEach es X.env := by rfl) (hpl : (backTo pos (starEach es X.env)).any (·.1) = false := by rfl) : VE X E O (.Call (.Name x p) (e :: es) [] pos) (eBlt f ml) := by
  obtain ⟨mna, ta, pa, fa⟩ := ha
  obtain ⟨r, ho, hr⟩ := h
  refine ⟨mn_blt mna, _, pe_callB ho hg hm hv pa hn hdb hs hpl, fun aS A0 H0 σ H s n xq Q S L hm => ?_⟩
  refine fa aS A0 H0 σ H s n xq _ S L (mna _ _ _ _ _ (fun ds n1 q vs H1 k1 st1 r1 => ?_) hm)
  obtain ⟨d, e, q⟩ := q
  exact hr aS H1 _ n1 ds d vs Q (S.step k1 st1).cn r1 e fun v H' k st r => q v H' (k1.trans k) st r
theorem ve_callTy {x : Str} {id : String} {p : Pos} {f : List D → Option D} (h : CallD X (.type id) f) (hg : Gl X x) (hm : X.mg x = none) (hv : bootBuiltins x = some (.type id)) (ha : VA RepB X E O (e :: es) ml) (hn : x ≠ "__name__" := by decide) (hdb : (x == ("__debug__" : Str)) = false := by decide)
    (hs : starEach (e :: es) X.env = (false, eval e X.env) :: starEach es X.env := by rfl) (hpl : (backTo pos (starEach es X.env)).any (·.1) = false := by rfl) : VE X E O (.Call (.Name x p) (e :: es) [] pos) (eBlt f ml) := by
  obtain ⟨mna, ta, pa, fa⟩ := ha
  obtain ⟨r, ho, hr⟩ := h
  refine ⟨mn_blt mna, _, pe_callTy ho hg hm hv pa hn hdb hs hpl, fun aS A0 H0 σ H s n xq Q S L hm => ?_⟩
  refine fa aS A0 H0 σ H s n xq _ S L (mna _ _ _ _ _ (fun ds n1 q vs H1 k1 st1 r1 => ?_) hm)
  obtain ⟨d, e, q⟩ := q
  exact hr aS H1 _ n1 ds d vs Q (S.step k1 st1).cn r1 e fun v H' k st r => q v H' (k1.trans k) st r
theorem vf_callTy {x : Str} {id : String} {p : Pos} {f : List D → Option D} (h : CallF X (.type id) f) (hg : Gl X x) (hm : X.mg x = none) (hv : bootBuiltins x = some (.type id)) (ha : VA RepB X E O (e :: es) ml) (hn : x ≠ "__name__" := by decide) (hdb : (x == ("__debug__" : Str)) = false := by decide)
    (hs : starEach (e :: es) X.env = (false, eval e X.env) :: starEach es X.env := by rfl) (hpl : (backTo pos (starEach es X.env)).any (·.1) = false := by rfl) : VF X E O (.Call (.Name x p) (e :: es) [] pos) (eBlt f ml) := by
  obtain ⟨mna, ta, pa, fa⟩ := ha
  obtain ⟨r, ho, hr⟩ := h
  refine ⟨mn_blt mna, _, pe_callTy ho hg hm hv pa hn hdb hs hpl, fun aS A0 H0 σ H s n xq Q S L hm => ?_⟩
  refine fa aS A0 H0 σ H s n xq _ S L (mna _ _ _ _ _ (fun ds n1 q vs H1 k1 st1 r1 => ?_) hm)
  obtain ⟨d, e, q⟩ := q
  refine hr aS H1 _ n1 ds d vs Q (S.step k1 st1).cn r1 e fun a H' ha k st o => q a H' ?_ (k1.trans k) st o
  cases z : H a with
  | none => rfl
  | some u =>
    by_cases hz : a = aS
    · obtain ⟨xs, y⟩ := st1.lst
      rw [hz, y] at ha; cases ha
    · exact (KpS.gone k1 ha z hz).elim
/-! displays, constants -/
theorem ve_tup {x1} (h : VA Rep X E O es ml) : VE X E O (.Tuple es x1 pos) (eTup ml) := by
  obtain ⟨mn, t, pa, f⟩ := h
  refine ⟨fun xq s n Q Q' hq h => mn _ _ _ _ _ (fun _ _ ⟨z, q⟩ => ⟨z, hq _ _ q⟩) h, _, pe_tup pa, fun aS A0 H0 σ H s n xq Q S L hm => ?_⟩
  refine f aS A0 H0 σ H s n xq _ S L (mn _ _ _ _ _ (fun ds n1 q vs H1 k1 st1 r1 => ?_) hm)
  have hl := (RL.repL r1).length
  refine ⟨by rw [hl, sizeLine_eq]; omega, fun p hp => q.2 _ _ (k1.trans (KpS.upd hp)) (st1.upd hp) ?_⟩
  rw [Rep]
  exact ⟨p, vs, rfl, .inl upd_same, (RL.repL r1).kp (KpS.upd hp) st1 AV.st⟩
theorem vf_lst (h : VA Rep X E O es ml) : VF X E O (.List es pos) (eLst ml) := by
  obtain ⟨mn, t, pa, f⟩ := h
  refine ⟨fun xq s n Q Q' hq h => mn _ _ _ _ _ (fun _ _ ⟨z, q⟩ => ⟨z, hq _ _ q⟩) h, _, pe_lst pa, fun aS A0 H0 σ H s n xq Q S L hm => ?_⟩
  refine f aS A0 H0 σ H s n xq _ S L (mn _ _ _ _ _ (fun ds n1 q vs H1 k1 st1 r1 => ?_) hm)
  have hl := (RL.repL r1).length
  refine ⟨by rw [hl, sizeLine_eq]; omega, fun p hp => q.2 _ _ ?_ (k1.trans (KpS.upd hp)) (st1.upd hp) (own_new hp (RL.repL r1))⟩
  cases z : H p with
  | none => rfl
  | some u =>
    by_cases hz : p = aS
    · obtain ⟨xs, y⟩ := st1.lst
      rw [hz, y] at hp; cases hp
    · exact (KpS.gone k1 hp z hz).elim
theorem mn_c {d : D} : Mn (eC d) := fun _ _ _ _ _ hq h => hq _ _ h
theorem ve_int {i j pos} : VE X E O (.Constant (.int i) j pos) (eC (.int i)) := ⟨mn_c, _, pe_int, fun aS A0 H0 σ H s n xq Q S L hm => hm _ H KpS.refl S.st (by rw [Rep])⟩
theorem ve_bl {b j pos} : VE X E O (.Constant (.bool b) j pos) (eC (.bl b)) := ⟨mn_c, _, pe_bl, fun aS A0 H0 σ H s n xq Q S L hm => hm _ H KpS.refl S.st (by rw [Rep])⟩
theorem ve_non {j pos} : VE X E O (.Constant .none j pos) (eC .non) := ⟨mn_c, _, pe_non, fun aS A0 H0 σ H s n xq Q S L hm => hm _ H KpS.refl S.st (by rw [Rep])⟩
theorem ve_str {x j pos} : VE X E O (.Constant (.str x) j pos) (eC (.str x)) := ⟨mn_c, _, pe_str, fun aS A0 H0 σ H s n xq Q S L hm => hm _ H KpS.refl S.st (by rw [Rep])⟩
/-- a module's text or int -/
theorem ve_gstr {x z : Str} (hg : Gl X x) (hm : ∃ t, X.mg x = some (.str z t)) (hd : (x == ("__debug__" : Str)) = false := by decide) : VE X E O (.Name x pos) (eC (.str z)) := by
  obtain ⟨t, hm⟩ := hm
  exact ⟨mn_c, _, pe_glob (v := .str z) hg hm ⟨t, rfl⟩ hd, fun aS A0 H0 σ H s n xq Q S L hm => hm _ H KpS.refl S.st (by rw [Rep])⟩
theorem ve_gint {x : Str} {i : Int} (hg : Gl X x) (hm : ∃ t, X.mg x = some (.int i t)) (hd : (x == ("__debug__" : Str)) = false := by decide) : VE X E O (.Name x pos) (eC (.int i)) := by
  obtain ⟨t, hm⟩ := hm
  exact ⟨mn_c, _, pe_glob (v := .int i) hg hm ⟨t, rfl⟩ hd, fun aS A0 H0 σ H s n xq Q S L hm => hm _ H KpS.refl S.st (by rw [Rep])⟩
/-- a built-in class, a class of the program's as a value -/
theorem ve_bty {x : Str} {T : String} (hg : Gl X x) (hm : X.mg x = none) (hv : bootBuiltins x = some (.type T)) (hn : x ≠ "__name__" := by decide) (hd : (x == ("__debug__" : Str)) = false := by decide) : VE X E O (.Name x pos) (eC (.raw (.ty T))) :=
  ⟨mn_c, _, pe_bltn (v := .ty T) hg hm hv rfl hn hd, fun aS A0 H0 σ H s n xq Q S L hm => hm _ H KpS.refl S.st (by rw [Rep])⟩
/-! and, or, not, if -/
def eAnd (a b : EM D) : EM D := fun xq s n Q => a xq s n fun x n1 => ∃ c, x = .bl c ∧ if c = true then b xq s n1 Q else Q (.bl false) n1
def eOr (a b : EM D) : EM D := fun xq s n Q => a xq s n fun x n1 => ∃ c, x = .bl c ∧ if c = true then Q (.bl true) n1 else b xq s n1 Q
def eNot (a : EM D) : EM D := fun xq s n Q => a xq s n fun x n1 => ∃ c, x = .bl c ∧ Q (.bl (!c)) n1
def tVal (a : EM D) : EM Bool := fun xq s n Q => a xq s n fun x n1 => ∃ c, x = .bl c ∧ Q c n1
def tAndD (a b : EM Bool) : EM Bool := fun xq s n Q => a xq s n fun c n1 => if c = true then b xq s n1 Q else Q false n1
def tOrD (a b : EM Bool) : EM Bool := fun xq s n Q => a xq s n fun c n1 => if c = true then Q true n1 else b xq s n1 Q
def tNotD (a : EM Bool) : EM Bool := fun xq s n Q => a xq s n fun c n1 => Q (!c) n1
/-- a chain of tests (and, or) -/
def VW (X : Cx) (E : XK) (O : List Nat) (e : Expr) (m : EM Bool) : Prop := Mn m ∧ ∃ t, PW X e t ∧ ∀ (aS : Addr) (A0 : A0T) (H0 : Hp) (σ : L2.St) (H : Hp) (s : Ev) (n : Nat) (xq : XQ) (Q : Bool → Hp → Prop), SR X.K aS O A0 H0 σ H s n → LX X.K E aS A0 H0 xq →
  m xq s n (fun b n' => ∀ H', KpS aS H H' → StA X.K aS H' n' → Q b H') → t σ H Q
variable {tA tB : EM Bool} {rest : List Expr}
theorem VW.t (h : VW X E O e tA) : VT X E O e tA := by
  obtain ⟨mn, t, pw, f⟩ := h
  exact ⟨mn, t, pw.pt, f⟩
theorem vw_and1 (ha : VT X E O a tA) : VW X E O (.BoolOp .And [a] pos) tA := by
  obtain ⟨mn, t, p, f⟩ := ha
  exact ⟨mn, t, pw_and1 p, f⟩
theorem vw_or1 (ha : VT X E O a tA) : VW X E O (.BoolOp .Or [a] pos) tA := by
  obtain ⟨mn, t, p, f⟩ := ha
  exact ⟨mn, t, pw_or1 p, f⟩
theorem vw_and (ha : VT X E O a tA) (hb : VW X E O (.BoolOp .And (b :: rest) pos) tB) : VW X E O (.BoolOp .And (a :: b :: rest) pos) (tAndD tA tB) := by
  obtain ⟨mna, ta, pa, fa⟩ := ha
  obtain ⟨mnb, tb, pb, fb⟩ := hb
  refine ⟨fun xq s n Q Q' hq h => mna _ _ _ _ _ (fun c n1 h => ?_) h, _, pw_and pa pb, fun aS A0 H0 σ H s n xq Q S L hm => ?_⟩
  · cases c with
    | true => exact mnb _ _ _ _ _ hq h
    | false => exact hq _ _ h
  · refine fa aS A0 H0 σ H s n xq _ S L (mna _ _ _ _ _ (fun c n1 q H1 k1 st1 => ?_) hm)
    cases c with
    | true => exact fb aS A0 H0 σ H1 s n1 xq _ (S.step k1 st1) L (mnb _ _ _ _ _ (fun c2 n2 q2 H2 k2 st2 => q2 H2 (k1.trans k2) st2) q)
    | false => exact q H1 k1 st1
theorem vw_or (ha : VT X E O a tA) (hb : VW X E O (.BoolOp .Or (b :: rest) pos) tB) : VW X E O (.BoolOp .Or (a :: b :: rest) pos) (tOrD tA tB) := by
  obtain ⟨mna, ta, pa, fa⟩ := ha
  obtain ⟨mnb, tb, pb, fb⟩ := hb
  refine ⟨fun xq s n Q Q' hq h => mna _ _ _ _ _ (fun c n1 h => ?_) h, _, pw_or pa pb, fun aS A0 H0 σ H s n xq Q S L hm => ?_⟩
  · cases c with
    | false => exact mnb _ _ _ _ _ hq h
    | true => exact hq _ _ h
  · refine fa aS A0 H0 σ H s n xq _ S L (mna _ _ _ _ _ (fun c n1 q H1 k1 st1 => ?_) hm)
    cases c with
    | false => exact fb aS A0 H0 σ H1 s n1 xq _ (S.step k1 st1) L (mnb _ _ _ _ _ (fun c2 n2 q2 H2 k2 st2 => q2 H2 (k1.trans k2) st2) q)
    | true => exact q H1 k1 st1
theorem vt_not (ha : VT X E O a tA) : VT X E O (.UnaryOp .Not a pos) (tNotD tA) := by
  obtain ⟨mn, t, p, f⟩ := ha
  exact ⟨fun xq s n Q Q' hq h => mn _ _ _ _ _ (fun c n1 h => hq _ _ h) h, _, pt_not p, fun aS A0 H0 σ H s n xq Q S L hm => f aS A0 H0 σ H s n xq _ S L hm⟩
theorem vt_val (h : VE X E O e m) (he : ∀ whole, isTrue e X.env whole = (do let v ← whole; standAt e.pos; holding [v] (truthy v)) := by intro _; rfl) : VT X E O e (tVal m) := by
  obtain ⟨mn, t, p, f⟩ := h
  refine ⟨fun xq s n Q Q' hq h => mn _ _ _ _ _ (fun _ _ ⟨c, e, q⟩ => ⟨c, e, hq _ _ q⟩) h, _, pt_val p he, fun aS A0 H0 σ H s n xq Q S L hm => ?_⟩
  refine f aS A0 H0 σ H s n xq _ S L (mn _ _ _ _ _ (fun d n1 q v H1 k1 st1 r1 => ?_) hm)
  obtain ⟨c, e, q⟩ := q
  subst e
  rw [Rep] at r1
  exact ⟨c, r1, q H1 k1 st1⟩
theorem ve_one {op} (h : VE X E O a m) : VE X E O (.BoolOp op [a] pos) m := by
  obtain ⟨mn, t, p, f⟩ := h
  exact ⟨mn, t, pe_one p, f⟩
theorem ve_and (ha : VE X E O a ma) (hb : VE X E O (.BoolOp .And (b :: rest) pos) mb) : VE X E O (.BoolOp .And (a :: b :: rest) pos) (eAnd ma mb) := by
  obtain ⟨mna, ta, pa, fa⟩ := ha
  obtain ⟨mnb, tb, pb, fb⟩ := hb
  refine ⟨fun xq s n Q Q' hq h => mna _ _ _ _ _ (fun d n1 h => by
    obtain ⟨c, e, h⟩ := h
    refine ⟨c, e, ?_⟩
    cases c with
    | true => exact mnb _ _ _ _ _ hq h
    | false => exact hq _ _ h) h, _, pe_and pa pb, fun aS A0 H0 σ H s n xq Q S L hm => ?_⟩
  refine fa aS A0 H0 σ H s n xq _ S L (mna _ _ _ _ _ (fun d n1 q v H1 k1 st1 r1 => ?_) hm)
  obtain ⟨c, e, q⟩ := q
  subst e
  rw [Rep] at r1
  refine ⟨c, r1, ?_⟩
  cases c with
  | true => exact fb aS A0 H0 σ H1 s n1 xq _ (S.step k1 st1) L (mnb _ _ _ _ _ (fun d2 n2 q2 v2 H2 k2 st2 r2 => q2 v2 H2 (k1.trans k2) st2 r2) q)
  | false => exact q _ H1 k1 st1 (by rw [Rep])
theorem ve_or (ha : VE X E O a ma) (hb : VE X E O (.BoolOp .Or (b :: rest) pos) mb) : VE X E O (.BoolOp .Or (a :: b :: rest) pos) (eOr ma mb) := by
  obtain ⟨mna, ta, pa, fa⟩ := ha
  obtain ⟨mnb, tb, pb, fb⟩ := hb
  refine ⟨fun xq s n Q Q' hq h => mna _ _ _ _ _ (fun d n1 h => by
    obtain ⟨c, e, h⟩ := h
    refine ⟨c, e, ?_⟩
    cases c with
    | false => exact mnb _ _ _ _ _ hq h
    | true => exact hq _ _ h) h, _, pe_or pa pb, fun aS A0 H0 σ H s n xq Q S L hm => ?_⟩
  refine fa aS A0 H0 σ H s n xq _ S L (mna _ _ _ _ _ (fun d n1 q v H1 k1 st1 r1 => ?_) hm)
  obtain ⟨c, e, q⟩ := q
  subst e
  rw [Rep] at r1
  refine ⟨c, r1, ?_⟩
  cases c with
  | false => exact fb aS A0 H0 σ H1 s n1 xq _ (S.step k1 st1) L (mnb _ _ _ _ _ (fun d2 n2 q2 v2 H2 k2 st2 r2 => q2 v2 H2 (k1.trans k2) st2 r2) q)
  | true => exact q _ H1 k1 st1 (by rw [Rep])
theorem ve_not (ha : VE X E O a ma) : VE X E O (.UnaryOp .Not a pos) (eNot ma) := by
  obtain ⟨mn, t, p, f⟩ := ha
  refine ⟨fun xq s n Q Q' hq h => mn _ _ _ _ _ (fun d n1 ⟨c, e, h⟩ => ⟨c, e, hq _ _ h⟩) h, _, pe_not p, fun aS A0 H0 σ H s n xq Q S L hm => ?_⟩
  refine f aS A0 H0 σ H s n xq _ S L (mn _ _ _ _ _ (fun d n1 ⟨c, e, q⟩ v H1 k1 st1 r1 => ?_) hm)
  subst e
  rw [Rep] at r1
  exact ⟨c, r1, q _ H1 k1 st1 (by rw [Rep])⟩
end
end DL
namespace DL
open PySem PySem.Spec PyProof.Rows L2
variable [TabC]
/-! ### sums -/
def LIM : Nat := 100000
def dAdd : D → D → Option D
  | .int i, .int j => some (.int (i + j))
  | .lst xs, .lst ys => if xs.length + ys.length ≤ LIM then some (.lst (xs ++ ys)) else none
  | .tup xs, .tup ys => if xs.length + ys.length ≤ LIM then some (.tup (xs ++ ys)) else none
  | .str x, .str y => if x.length + y.length ≤ LIM then some (.str (x ++ y)) else none
  | _, _ => none
section
variable {K : PySem.W.Frag} {aS : Addr} {H : Hp} {A : AS} {n : Nat} {d : D} {v : V}
theorem repB_int {i : Int} (h : RepB K aS H A (.int i) v) : v = .int i := by
  unfold RepB at h
  simp only [Rep] at h
  exact h
theorem repB_str {i : Str} (h : RepB K aS H A (.str i) v) : v = .str i := by
  unfold RepB at h
  simp only [Rep] at h
  exact h
theorem repB_bl {i : Bool} (h : RepB K aS H A (.bl i) v) : v = .bl i := by
  unfold RepB at h
  simp only [Rep] at h
  exact h
theorem repB_non (h : RepB K aS H A .non v) : v = .non := by
  unfold RepB at h
  simp only [Rep] at h
  exact h
theorem repB_raw {u : V} (h : RepB K aS H A (.raw u) v) : v = u := by
  unfold RepB at h
  simp only [Rep] at h
  exact h
theorem repB_tup {ds : List D} (h : RepB K aS H A (.tup ds) v) : ∃ a xs, v = .ref a ∧ TpA K H a xs ∧ RepL K aS H A ds xs := by
  unfold RepB at h
  simp only [Rep] at h
  exact h
theorem repB_lst {ds : List D} (h : RepB K aS H A (.lst ds) v) : ∃ a xs, v = .ref a ∧ a ≠ aS ∧ H a = some (.lst xs) ∧ RepL K aS H A ds xs := h
theorem repB_dic {ds : List (Key × D)} (h : RepB K aS H A (.dic ds) v) : ∃ a ys, v = .ref a ∧ a ≠ aS ∧ Rd H a (.dK ys) ∧ RepK K aS H A ds ys := h
theorem rep_int {i : Int} : Rep K aS H A (.int i) (.int i) := by rw [Rep]
theorem rep_str {i : Str} : Rep K aS H A (.str i) (.str i) := by rw [Rep]
theorem rep_bl {i : Bool} : Rep K aS H A (.bl i) (.bl i) := by rw [Rep]
theorem rep_non : Rep K aS H A .non .non := by rw [Rep]
theorem rep_tup {ds : List D} {a : Addr} {xs : List V} (h : TpA K H a xs) (r : RepL K aS H A ds xs) : Rep K aS H A (.tup ds) (.ref a) := by rw [Rep]; exact ⟨a, xs, rfl, h, r⟩
theorem lim_line {k : Nat} (h : k ≤ LIM) : k ≤ sizeLine := by unfold LIM at h; rw [sizeLine_eq]; omega
theorem RepL.kpu {ds : List D} {xs : List V} {p : Addr} {o : HO} (c : Cn K aS H A n) (hp : H p = none) (r : RepL K aS H A ds xs) : RepL K aS (upd H p o) A ds xs := r.kp (KpS.upd hp) c.st c.a
end
section
variable {X : Cx}
theorem od_add : OpD X (binaryOp .Add) dAdd := by
  refine ⟨_, OpR.or op_add (OpR.or op_cat (OpR.or op_catA op_add_str)), fun aS H A n d1 d2 d v1 v2 Q c r1 r2 e w => ?_⟩
  unfold dAdd at e
  split at e
  · cases e
    exact .inl ⟨_, _, repB_int r1, repB_int r2, w _ _ KpS.refl c.st rep_int⟩
  · split at e
    · rename_i xs ys hl
      cases e
      obtain ⟨a, us, e1, n1, h1, q1⟩ := repB_lst r1
      obtain ⟨b, ws, e2, n2, h2, q2⟩ := repB_lst r2
      refine .inr (.inl ⟨a, b, us, ws, e1, e2, h1, h2, by rw [q1.length, q2.length]; exact lim_line hl, fun p hp => w _ _ (KpS.upd hp) (c.st.upd hp) ((own_new hp (q1.app q2)).rep (c.new hp))⟩)
    · cases e
  · split at e
    · rename_i xs ys hl
      cases e
      obtain ⟨a, us, e1, h1, q1⟩ := repB_tup r1
      obtain ⟨b, ws, e2, h2, q2⟩ := repB_tup r2
      refine .inr (.inr (.inl ⟨a, b, us, ws, e1, e2, h1.sq, h2.sq, by rw [q1.length, q2.length]; exact lim_line hl, fun z => ?_, fun _ z => ?_, fun _ _ p hp => w _ _ (KpS.upd hp) (c.st.upd hp) (rep_tup (.inl upd_same) ((q1.app q2).kpu c hp))⟩))
      · have ez : xs = [] := List.length_eq_zero_iff.mp (by rw [← q1.length, z]; rfl)
        subst ez
        exact w _ _ KpS.refl c.st (rep_tup h2 q2)
      · have ez : ys = [] := List.length_eq_zero_iff.mp (by rw [← q2.length, z]; rfl)
        subst ez
        rw [List.append_nil] at w
        exact w _ _ KpS.refl c.st (rep_tup h1 q1)
    · cases e
  · split at e
    · rename_i xs ys hl
      cases e
      exact .inr (.inr (.inr ⟨_, _, repB_str r1, repB_str r2, lim_line hl, w _ _ KpS.refl c.st rep_str⟩))
    · cases e
  · cases e
/-! ### comparisons -/
def dCmp (f : Int → Int → Bool) (g : List Nat → List Nat → Bool) : D → D → Option D
  | .int i, .int j => some (.bl (f i j))
  | .str i, .str j => some (.bl (g i.cps.toList j.cps.toList))
  | _, _ => none
theorem od_cmp {op : CmpOp} {f : Int → Int → Bool} {g : List Nat → List Nat → Bool} (h1 : OpR X (compareOp op) (rI0 fun i j => .bl (f i j))) (h2 : OpR X (compareOp op) (fun x y H Q => ∃ i j, x = .str i ∧ y = .str j ∧ Q (.bl (g i.cps.toList j.cps.toList)) H)) : OpD X (compareOp op) (dCmp f g) := by
  refine ⟨_, OpR.or h1 h2, fun aS H A n d1 d2 d v1 v2 Q c r1 r2 e w => ?_⟩
  unfold dCmp at e
  split at e
  · cases e
    exact .inl ⟨_, _, repB_int r1, repB_int r2, w _ _ KpS.refl c.st rep_bl⟩
  · cases e
    exact .inr ⟨_, _, repB_str r1, repB_str r2, w _ _ KpS.refl c.st rep_bl⟩
  · cases e
def dLt : D → D → Option D := dCmp (fun i j => decide (i < j)) (fun x y => decide (x < y))
def dLe0 : D → D → Option D := dCmp (fun i j => decide (i ≤ j)) (fun x y => !decide (y < x))
def dGe : D → D → Option D := dCmp (fun i j => decide (j ≤ i)) (fun x y => !decide (x < y))
theorem od_le0 : OpD X (compareOp .LtE) dLe0 := od_cmp op_le op_le_str
theorem od_ge : OpD X (compareOp .GtE) dGe := od_cmp op_ge op_ge_str
end
/-! ### == by data -/
mutual
def toPD : D → PyData
  | .non => .none
  | .bl b => .bool b
  | .int i => .int i
  | .str x => .str x
  | .lst xs => .list (toPDs xs)
  | .tup xs => .tuple (toPDs xs)
  | _ => .dict []
def toPDs : List D → List PyData
  | [] => []
  | d :: ds => toPD d :: toPDs ds
end
section
variable {K : PySem.W.Frag} {aS : Addr} {H : Hp} {A : AS}
mutual
theorem Rep.dp : ∀ (d : D) (v : V), (toPD d).canLay0 = true → Rep K aS H A d v → Dp K H v (toPD d)
  | .non, v, _, h => by
    simp only [Rep] at h
    subst h
    exact Dp.non
  | .bl b, v, _, h => by
    simp only [Rep] at h
    subst h
    exact Dp.bl b
  | .int i, v, _, h => by
    simp only [Rep] at h
    subst h
    exact Dp.int i
  | .str i, v, _, h => by
    simp only [Rep] at h
    subst h
    exact Dp.str i
  | .lst ds, v, c, h => by
    rw [Rep] at h
    obtain ⟨a, xs, e, n, q, r⟩ := h
    subst e
    rw [toPD] at c ⊢
    exact Dp.lst (SqL.of q) (RepL.dp ds xs (by simpa [PyData.canLay0] using c) r)
  | .tup ds, v, c, h => by
    rw [Rep] at h
    obtain ⟨a, xs, e, q, r⟩ := h
    subst e
    rw [toPD] at c ⊢
    exact Dp.tup q.sq (RepL.dp ds xs (by simpa [PyData.canLay0] using c) r)
  | .raw u, v, c, h => by simp [toPD, PyData.canLay0] at c
  | .st, v, c, h => by simp [toPD, PyData.canLay0] at c
  | .dic u, v, c, h => by simp [toPD, PyData.canLay0] at c
  | .dmx u, v, c, h => by simp [toPD, PyData.canLay0] at c
  | .obj C u, v, c, h => by simp [toPD, PyData.canLay0] at c
  | .exc C u, v, c, h => by simp [toPD, PyData.canLay0] at c
theorem RepL.dp : ∀ (ds : List D) (vs : List V), PyData.canLayAll0 (toPDs ds) = true → RepL K aS H A ds vs → DpAll K H vs (toPDs ds)
  | [], vs, _, h => by
    rw [RepL] at h
    subst h
    exact DpAll.nil
  | d :: ds, vs, c, h => by
    rw [RepL] at h
    obtain ⟨v, vr, e, r, q⟩ := h
    subst e
    have c' : (toPD d).canLay0 = true ∧ PyData.canLayAll0 (toPDs ds) = true := by simpa [toPDs, PyData.canLayAll0] using c
    rw [toPDs]
    exact DpAll.cons (Rep.dp d v c'.1 r) (RepL.dp ds vr c'.2 q)
end
theorem RepB.dp {d : D} {v : V} (c : (toPD d).canLay0 = true) (h : RepB K aS H A d v) : Dp K H v (toPD d) := by
  cases d with
  | lst ds =>
    obtain ⟨a, xs, e, n, q, r⟩ := h
    subst e
    rw [toPD] at c ⊢
    exact Dp.lst (SqL.of q) (RepL.dp ds xs (by simpa [PyData.canLay0] using c) r)
  | dic ds => simp [toPD, PyData.canLay0] at c
  | dmx ds => simp [toPD, PyData.canLay0] at c
  | obj C ds => simp [toPD, PyData.canLay0] at c
  | exc C ds => simp [toPD, PyData.canLay0] at c
  | non => exact Rep.dp (aS := aS) (A := A) .non _ c h
  | bl b => exact Rep.dp (aS := aS) (A := A) (.bl b) _ c h
  | int b => exact Rep.dp (aS := aS) (A := A) (.int b) _ c h
  | str b => exact Rep.dp (aS := aS) (A := A) (.str b) _ c h
  | raw b => exact Rep.dp (aS := aS) (A := A) (.raw b) _ c h
  | st => exact Rep.dp (aS := aS) (A := A) .st _ c h
  | tup b => exact Rep.dp (aS := aS) (A := A) (.tup b) _ c h
end
def okD (d : D) : Bool := SeqAt.shaped (toPD d)
theorem okD_lay {d : D} (h : okD d = true) : (toPD d).canLay0 = true := by
  unfold okD SeqAt.shaped at h
  exact (Bool.and_eq_true_iff.mp h).1
def pyEq (a b : D) : Bool := (toPD a).eqv (toPD b)
def dEq (a b : D) : Option D := if (okD a && okD b) = true then some (.bl (pyEq a b)) else none
def dNe (a b : D) : Option D := if (okD a && okD b) = true then some (.bl (!pyEq a b)) else none
section
variable {X : Cx}
/-! x <= y of alike data: lists and tuples place by place -/
def ordOk (a b : D) : Bool := okD a && okD b && PySem.W.alike (toPD a) (toPD b) && (match a with | .lst _ => true | .tup _ => true | _ => false)
def dLeD (a b : D) : Option D := if ordOk a b = true then some (.bl (!PySem.W.dataLt (toPD b) (toPD a))) else none
def rLeD (K : PySem.W.Frag) : R2 := fun x y H Q => ∃ d e, Dp K H x d ∧ Dp K H y e ∧ SeqAt.shaped d = true ∧ SeqAt.shaped e = true ∧ PySem.W.alike d e = true ∧ d ≠ .none ∧ Q (.bl (!PySem.W.dataLt e d)) H
theorem op_leD (hu : X.A.units + 64 < cLine) : OpR X (compareOp .LtE) (rLeD X.K) := fun pins s σ H x y v u Q I rx ry ⟨d, e, hd, he, sd, se, ha, hn, q⟩ => by
  obtain ⟨as, r1⟩ := Dp.reads I d x v hd rx
  obtain ⟨bs, r2⟩ := Dp.reads I e y u he ry
  have h1 : d.depth ≤ 64 := of_decide_eq_true (Bool.and_eq_true_iff.mp sd).2
  exact PySem.W.le_data r1 r2 ha hn (by have := Nat.min_le_left d.depth e.depth; omega) ⟨.bl _, H, I, rfl, q⟩
theorem od_leD (hu : X.A.units + 64 < cLine) : OpD X (compareOp .LtE) dLeD := by
  refine ⟨_, op_leD hu, fun aS H A n d1 d2 d v1 v2 Q c r1 r2 e w => ?_⟩
  unfold dLeD at e
  split at e
  · rename_i h
    cases e
    obtain ⟨h, h4⟩ := Bool.and_eq_true_iff.mp h
    obtain ⟨h, h3⟩ := Bool.and_eq_true_iff.mp h
    obtain ⟨h1, h2⟩ := Bool.and_eq_true_iff.mp h
    refine ⟨_, _, r1.dp (okD_lay h1), r2.dp (okD_lay h2), h1, h2, h3, ?_, w _ _ KpS.refl c.st rep_bl⟩
    cases d1 with
    | lst _ => exact fun z => nomatch z
    | tup _ => exact fun z => nomatch z
    | _ => cases h4
  · cases e
def dLe (a b : D) : Option D := (dLe0 a b).or (dLeD a b)
theorem od_le (hu : X.A.units + 64 < cLine) : OpD X (compareOp .LtE) dLe := by
  obtain ⟨R1, h1, k1⟩ := od_le0 (X := X)
  obtain ⟨R2, h2, k2⟩ := od_leD (X := X) hu
  refine ⟨_, OpR.or h1 h2, fun aS H A n d1 d2 d v1 v2 Q c r1 r2 e w => ?_⟩
  unfold dLe at e
  cases e0 : dLe0 d1 d2 with
  | some z =>
    rw [e0] at e
    cases e
    exact .inl (k1 aS H A n d1 d2 _ v1 v2 Q c r1 r2 e0 w)
  | none =>
    rw [e0] at e
    exact .inr (k2 aS H A n d1 d2 d v1 v2 Q c r1 r2 e w)
theorem od_eq (hu : X.A.units + 64 < cLine) : OpD X (compareOp .Eq) dEq := by
  refine ⟨_, op_eqD hu, fun aS H A n d1 d2 d v1 v2 Q c r1 r2 e w => ?_⟩
  unfold dEq at e
  split at e
  · rename_i h
    cases e
    obtain ⟨h1, h2⟩ := Bool.and_eq_true_iff.mp h
    exact ⟨_, _, r1.dp (okD_lay h1), r2.dp (okD_lay h2), h1, h2, w _ _ KpS.refl c.st rep_bl⟩
  · cases e
theorem od_ne (hu : X.A.units + 64 < cLine) : OpD X (compareOp .NotEq) dNe := by
  refine ⟨_, op_neD hu, fun aS H A n d1 d2 d v1 v2 Q c r1 r2 e w => ?_⟩
  unfold dNe at e
  split at e
  · rename_i h
    cases e
    obtain ⟨h1, h2⟩ := Bool.and_eq_true_iff.mp h
    exact ⟨_, _, r1.dp (okD_lay h1), r2.dp (okD_lay h2), h1, h2, w _ _ KpS.refl c.st rep_bl⟩
  · cases e
end
/-! ### in -/
def flatD : D → Bool
  | .non => true
  | .bl _ => true
  | .int _ => true
  | .str _ => true
  | _ => false
def keyD : D → Option Key
  | .int i => some (.inl i)
  | .str x => some (.inr x)
  | _ => none
def lookK (kvs : List (Key × D)) (k : Key) : Option D := (kvs.find? fun kv => decide (kv.1 = k)).map (·.2)
def dInB : D → D → Option Bool
  | x, .lst ys => if (okD x && okD (.lst ys)) = true then some (ys.any fun y => pyEq y x) else none
  | x, .tup ys => if (flatD x && ys.all flatD) = true then some (ys.any fun y => pyEq y x) else none
  | x, .dic kvs => (keyD x).map fun k => (lookK kvs k).isSome
  | .str c, .str z => match c.cps.toList with
    | [k] => some (decide (k ∈ z.cps.toList))
    | _ => none
  | _, _ => none
def dIn (x y : D) : Option D := (dInB x y).map .bl
def dNotIn (x y : D) : Option D := (dInB x y).map fun b => .bl (!b)
section
variable {K : PySem.W.Frag} {aS : Addr} {H : Hp} {A : AS}
theorem flat_rep : ∀ {d : D} {v : V}, flatD d = true → Rep K aS H A d v → flatV v = true ∧ ∀ (e : D) (u : V), flatD e = true → Rep K aS H A e u → eqV v u = pyEq d e := by
  intro d v h r
  cases d <;> simp only [flatD, Bool.false_eq_true] at h <;> simp only [Rep] at r <;> subst r <;> refine ⟨rfl, fun e u h2 r2 => ?_⟩ <;> cases e <;> simp only [flatD, Bool.false_eq_true] at h2 <;> simp only [Rep] at r2 <;> subst r2 <;> simp [eqV, pyEq, toPD, PyData.eqv]
theorem flat_all : ∀ {ds : List D} {vs : List V} {x : D} {v : V}, ds.all flatD = true → RepL K aS H A ds vs → flatD x = true → Rep K aS H A x v → vs.all flatV = true ∧ inV v vs = ds.any (fun y => pyEq y x)
  | [], vs, x, v, _, h, _, _ => by
    rw [RepL] at h
    subst h
    exact ⟨rfl, rfl⟩
  | d :: ds, vs, x, v, h, r, hx, rx => by
    rw [RepL] at r
    obtain ⟨w, vr, e, r, q⟩ := r
    subst e
    rw [List.all_cons] at h
    obtain ⟨h1, h2⟩ := Bool.and_eq_true_iff.mp h
    obtain ⟨f1, f2⟩ := flat_rep h1 r
    obtain ⟨i1, i2⟩ := flat_all h2 q hx rx
    refine ⟨by rw [List.all_cons, f1, i1]; rfl, ?_⟩
    unfold inV at i2 ⊢
    rw [List.any_cons, List.any_cons, i2, f2 x v hx rx]
theorem any_pds (x : D) : ∀ ys : List D, (toPDs ys).any (fun z => PyData.eqv z (toPD x)) = ys.any fun y => pyEq y x
  | [] => rfl
  | y :: ys => by rw [toPDs, List.any_cons, List.any_cons, any_pds x ys]; rfl
theorem RepK.val : ∀ {ds : List (Key × D)} {vs : List (Key × V)} (k : Key), RepK K aS H A ds vs → (lookK ds k = none ∧ valV vs k = none) ∨ ∃ d v, lookK ds k = some d ∧ valV vs k = some v ∧ Rep K aS H A d v
  | [], vs, k, h => by
    rw [RepK] at h
    subst h
    exact .inl ⟨rfl, rfl⟩
  | (k', d) :: ds, vs, k, h => by
    rw [RepK] at h
    obtain ⟨v, vr, e, r, q⟩ := h
    subst e
    unfold lookK valV
    rw [List.find?_cons, List.find?_cons]
    by_cases hk : k' = k
    · simp only [hk, decide_true]
      exact .inr ⟨d, v, rfl, rfl, r⟩
    · simp only [hk, decide_false]
      exact RepK.val k q
theorem key_rep {d : D} {v : V} {k : Key} (h : keyD d = some k) (r : RepB K aS H A d v) : v = kV k := by
  cases d <;> simp only [keyD] at h <;> cases h
  · exact repB_int r
  · exact repB_str r
end
section
variable {X : Cx}
theorem op_dIn (hu : X.A.units + 1 < cLine) : OpR X (compareOp .In) (fun x y H Q => ∃ a o, y = .ref a ∧ DGet H a x o ∧ Q (.bl o.isSome) H) :=
  fun _ _ _ H _ _ _ _ _ inv rx ry ⟨_, o, ey, g, q⟩ => by
    subst ey
    cases ry
    exact d_in hu inv g rx fun _ inv' => ⟨.bl o.isSome, H, inv', rfl, q⟩
theorem op_dNotIn (hu : X.A.units + 1 < cLine) : OpR X (compareOp .NotIn) (fun x y H Q => ∃ a o, y = .ref a ∧ DGet H a x o ∧ Q (.bl (!o.isSome)) H) :=
  fun _ _ _ H _ _ _ _ _ inv rx ry ⟨_, o, ey, g, q⟩ => by
    subst ey
    cases ry
    exact d_notIn hu inv g rx fun _ inv' => ⟨.bl (!o.isSome), H, inv', rfl, q⟩
theorem od_in (hu : X.A.units + 65 < cLine) : OpD X (compareOp .In) dIn := by
  refine ⟨_, OpR.or (op_inD hu) (OpR.or op_in_seq (OpR.or (op_dIn (by omega)) op_in_sign)), fun aS H A n d1 d2 d v1 v2 Q c r1 r2 e w => ?_⟩
  unfold dIn at e
  cases hb : dInB d1 d2 with
  | none => rw [hb] at e; cases e
  | some b =>
    rw [hb] at e
    cases e
    unfold dInB at hb
    split at hb
    · split at hb
      · rename_i x ys h
        cases hb
        obtain ⟨h1, h2⟩ := Bool.and_eq_true_iff.mp h
        have q2 := r2.dp (okD_lay h2)
        rw [toPD] at q2
        refine .inl ⟨_, _, r1.dp (okD_lay h1), q2, h1, h2, ?_⟩
        rw [any_pds]
        exact w _ _ KpS.refl c.st rep_bl
      · cases hb
    · split at hb
      · rename_i x ys h
        cases hb
        obtain ⟨h1, h2⟩ := Bool.and_eq_true_iff.mp h
        obtain ⟨a, xs, e2, h3, q2⟩ := repB_tup r2
        have r1' : Rep X.K aS H A d1 v1 := by cases d1 <;> first | exact r1 | (simp only [flatD, Bool.false_eq_true] at h1)
        obtain ⟨i1, i2⟩ := flat_all h2 q2 h1 r1'
        refine .inr (.inl ⟨a, xs, e2, .inr h3.sq, (flat_rep h1 r1').1, i1, ?_⟩)
        rw [if_neg (by decide), i2]
        exact w _ _ KpS.refl c.st rep_bl
      · cases hb
    · rename_i x kvs
      cases hk : keyD d1 with
      | none => rw [hk] at hb; cases hb
      | some k =>
        rw [hk] at hb
        cases hb
        obtain ⟨a, ys, e2, n2, h3, q2⟩ := repB_dic r2
        have e1 := key_rep hk r1
        refine .inr (.inr (.inl ⟨a, valV ys k, e2, .inl ⟨ys, k, h3, e1, rfl⟩, ?_⟩))
        rcases q2.val k with ⟨z1, z2⟩ | ⟨d, v, z1, z2, z3⟩
        · simp only [z1] at w
          rw [z2]
          exact w _ _ KpS.refl c.st rep_bl
        · simp only [z1] at w
          rw [z2]
          exact w _ _ KpS.refl c.st rep_bl
    · rename_i x z
      split at hb
      · rename_i k hk
        cases hb
        have ex : x = ⟨#[k]⟩ := by
          obtain ⟨cp⟩ := x
          have : cp.toList = [k] := hk
          rw [← Array.toArray_toList (xs := cp), this]
        rw [ex] at r1
        exact .inr (.inr (.inr ⟨k, z, repB_str r1, repB_str r2, w _ _ KpS.refl c.st rep_bl⟩))
      · cases hb
    · cases hb
theorem od_notIn (hu : X.A.units + 65 < cLine) : OpD X (compareOp .NotIn) dNotIn := by
  refine ⟨_, OpR.or (op_notInD hu) (OpR.or op_notIn_seq (OpR.or (op_dNotIn (by omega)) op_notIn_sign)), fun aS H A n d1 d2 d v1 v2 Q c r1 r2 e w => ?_⟩
  unfold dNotIn at e
  cases hb : dInB d1 d2 with
  | none => rw [hb] at e; cases e
  | some b =>
    rw [hb] at e
    cases e
    unfold dInB at hb
    split at hb
    · split at hb
      · rename_i x ys h
        cases hb
        obtain ⟨h1, h2⟩ := Bool.and_eq_true_iff.mp h
        have q2 := r2.dp (okD_lay h2)
        rw [toPD] at q2
        refine .inl ⟨_, _, r1.dp (okD_lay h1), q2, h1, h2, ?_⟩
        rw [any_pds]
        exact w _ _ KpS.refl c.st rep_bl
      · cases hb
    · split at hb
      · rename_i x ys h
        cases hb
        obtain ⟨h1, h2⟩ := Bool.and_eq_true_iff.mp h
        obtain ⟨a, xs, e2, h3, q2⟩ := repB_tup r2
        have r1' : Rep X.K aS H A d1 v1 := by cases d1 <;> first | exact r1 | (simp only [flatD, Bool.false_eq_true] at h1)
        obtain ⟨i1, i2⟩ := flat_all h2 q2 h1 r1'
        refine .inr (.inl ⟨a, xs, e2, .inr h3.sq, (flat_rep h1 r1').1, i1, ?_⟩)
        rw [if_pos rfl, i2]
        exact w _ _ KpS.refl c.st rep_bl
      · cases hb
    · rename_i x kvs
      cases hk : keyD d1 with
      | none => rw [hk] at hb; cases hb
      | some k =>
        rw [hk] at hb
        cases hb
        obtain ⟨a, ys, e2, n2, h3, q2⟩ := repB_dic r2
        have e1 := key_rep hk r1
        refine .inr (.inr (.inl ⟨a, valV ys k, e2, .inl ⟨ys, k, h3, e1, rfl⟩, ?_⟩))
        rcases q2.val k with ⟨z1, z2⟩ | ⟨d, v, z1, z2, z3⟩
        · simp only [z1] at w
          rw [z2]
          exact w _ _ KpS.refl c.st rep_bl
        · simp only [z1] at w
          rw [z2]
          exact w _ _ KpS.refl c.st rep_bl
    · rename_i x z
      split at hb
      · rename_i k hk
        cases hb
        have ex : x = ⟨#[k]⟩ := by
          obtain ⟨cp⟩ := x
          have : cp.toList = [k] := hk
          rw [← Array.toArray_toList (xs := cp), this]
        rw [ex] at r1
        exact .inr (.inr (.inr ⟨k, z, repB_str r1, repB_str r2, w _ _ KpS.refl c.st rep_bl⟩))
      · cases hb
    · cases hb
end
end DL
namespace DL
open PySem PySem.Spec PyProof.Rows L2
variable [TabC]
/-! ### subscripts -/
def dIdx : D → D → Option D
  | .lst xs, .int i => atI xs i
  | .tup xs, .int i => atI xs i
  | .str x, .int i => if x.length ≤ LIM then (atI x.cps.toList i).map fun c => .str ⟨#[c]⟩ else none
  | .dic kvs, k => (keyD k).bind (lookK kvs)
  | _, _ => none
theorem RepL.atI {K : PySem.W.Frag} {aS : Addr} {H : Hp} {A : AS} {ds : List D} {vs : List V} {i : Int} {d : D} (r : RepL K aS H A ds vs) (h : L2.atI ds i = some d) : ∃ v, L2.atI vs i = some v ∧ Rep K aS H A d v := by
  unfold L2.atI at h ⊢
  rw [r.length]
  cases e : ixN ds.length i with
  | none => rw [e] at h; cases h
  | some j =>
    rw [e] at h
    exact r.get h
section
variable {X : Cx} {E : XK} {O : List Nat} {a b e : Expr} {ma mb m : EM D} {pos : Pos}
/-- a dict by a key, read whatever its lock -/
theorem ix_dict (hu : X.A.units + 1 < cLine) : IxR X (fun x y H Q => ∃ a v, x = .ref a ∧ DGet H a y (some v) ∧ Q v H) :=
  fun _ _ _ _ _ H _ _ _ _ _ I rx ry ⟨_, v, ex, g, q⟩ hs => by
    subst ex
    cases rx
    exact tail_any (dict_typeIs I g) PySem.F.slot_dict_getitem.lookup (d_getItem hu I g ry fun _ _ I' r' => ⟨v, H, I', r', q⟩) hs
theorem ve_sub (hu : X.A.units + 1 < cLine) (ha : VB X E O a ma) (hb : VB X E O b mb) (hp : PlainIx b) : VE X E O (.Subscript a b pos) (eBin dIdx ma mb) := by
  obtain ⟨mna, ta, pa, fa⟩ := ha
  obtain ⟨mnb, tb, pb, fb⟩ := hb
  refine ⟨mn_bin mna mnb, _, pe_ix (IxR.or ix_list (IxR.or ix_tup (IxR.or ix_str (ix_dict hu)))) pa pb hp, fun aS A0 H0 σ H s n xq Q S L hm => ?_⟩
  refine fa aS A0 H0 σ H s n xq _ S L (mna _ _ _ _ _ (fun d1 n1 q v1 H1 k1 st1 r0 => ?_) hm)
  refine fb aS A0 H0 σ H1 s n1 xq _ (S.step k1 st1) L (mnb _ _ _ _ _ (fun d2 n2 q2 v2 H2 k2 st2 r2 => ?_) q)
  obtain ⟨d, e, q3⟩ := q2
  have r1 := r0.kp k2 st1 AV.st
  clear r0
  have w := fun v r => q3 v H2 (k1.trans k2) st2 r
  unfold dIdx at e
  split at e
  · obtain ⟨p, xs, e1, _, h1, rl⟩ := repB_lst r1
    obtain ⟨v, e2, r⟩ := rl.atI e
    exact .inl ⟨p, xs, _, v, e1, repB_int r2, SqL.of h1, e2, w v r⟩
  · obtain ⟨p, xs, e1, h1, rl⟩ := repB_tup r1
    obtain ⟨v, e2, r⟩ := rl.atI e
    exact .inr (.inl ⟨p, xs, _, v, e1, repB_int r2, h1.sq, e2, w v r⟩)
  · split at e
    · rename_i x i hl
      cases ec : L2.atI x.cps.toList i with
      | none => rw [ec] at e; cases e
      | some c =>
        rw [ec] at e
        cases e
        exact .inr (.inr (.inl ⟨x, i, c, repB_str r1, repB_int r2, lim_line hl, ec, w _ rep_str⟩))
    · cases e
  · cases ek : keyD d2 with
    | none => rw [ek] at e; cases e
    | some k =>
      rw [ek] at e
      obtain ⟨p, ys, e1, _, h1, rk⟩ := repB_dic r1
      rcases rk.val k with ⟨z1, z2⟩ | ⟨d', v, z1, z2, z3⟩
      · have e : lookK _ k = some d := e
        rw [z1] at e; cases e
      · have e : lookK _ k = some d := e
        rw [z1] at e
        cases e
        exact .inr (.inr (.inr ⟨p, v, e1, .inl ⟨ys, k, h1, key_rep ek r2, z2.symm⟩, w v z3⟩))
  · cases e
/-! ### slices -/
def cutL {α : Type} (xs : List α) (lo hi : Option Int) : List α := (xs.drop (HT.sIx xs.length 0 lo)).take (HT.sIx xs.length xs.length hi - HT.sIx xs.length 0 lo)
def dSl : D → Option Int → Option Int → Option D
  | .lst xs, lo, hi => some (.lst (cutL xs lo hi))
  | .tup xs, lo, hi => some (.tup (cutL xs lo hi))
  | .str x, lo, hi => if x.length ≤ LIM then some (.str (cutS x lo hi)) else none
  | _, _, _ => none
theorem RepL.cut {K : PySem.W.Frag} {aS : Addr} {H : Hp} {A : AS} {ds : List D} {vs : List V} {lo hi : Option Int} (r : RepL K aS H A ds vs) : RepL K aS H A (cutL ds lo hi) (cutV vs lo hi) := by
  unfold cutL cutV
  rw [r.length]
  exact (r.drop _).take _
def VO (X : Cx) (E : XK) (O : List Nat) (e : Option Expr) (m : EM (Option Int)) : Prop := Mn m ∧ ∃ t, PO X e t ∧ ∀ (aS : Addr) (A0 : A0T) (H0 : Hp) (σ : L2.St) (H : Hp) (s : Ev) (n : Nat) (xq : XQ) (Q : Option Int → Hp → Prop), SR X.K aS O A0 H0 σ H s n → LX X.K E aS A0 H0 xq →
  m xq s n (fun b n' => ∀ H', KpS aS H H' → StA X.K aS H' n' → Q b H') → t σ H Q
def oNone : EM (Option Int) := fun _ _ n Q => Q none n
def oSome (m : EM D) : EM (Option Int) := fun xq s n Q => m xq s n fun d n1 => ∃ i, d = .int i ∧ Q (some i) n1
theorem vo_none : VO X E O none oNone := ⟨fun _ _ _ _ _ hq h => hq _ _ h, _, po_none, fun aS A0 H0 σ H s n xq Q S L hm => hm H KpS.refl S.st⟩
theorem vo_some (h : VB X E O e m) : VO X E O (some e) (oSome m) := by
  obtain ⟨mn, t, p, f⟩ := h
  refine ⟨fun xq s n Q Q' hq h => mn _ _ _ _ _ (fun _ _ ⟨i, e, q⟩ => ⟨i, e, hq _ _ q⟩) h, _, po_some p, fun aS A0 H0 σ H s n xq Q S L hm => ?_⟩
  refine f aS A0 H0 σ H s n xq _ S L (mn _ _ _ _ _ (fun d n1 q v H1 k1 st1 r1 => ?_) hm)
  obtain ⟨i, e, q⟩ := q
  subst e
  exact ⟨i, repB_int r1, q H1 k1 st1⟩
def eSl (m : EM D) (lo hi : EM (Option Int)) : EM D := fun xq s n Q => m xq s n fun d n1 => lo xq s n1 fun l n2 => hi xq s n2 fun h n3 => ∃ r, dSl d l h = some r ∧ Q r n3
theorem ve_slice {lo hi : Option Expr} {ml mh : EM (Option Int)} {p2 : Pos} (ha : VB X E O a ma) (hl : VO X E O lo ml) (hh : VO X E O hi mh) : VE X E O (.Subscript a (.Slice lo hi none p2) pos) (eSl ma ml mh) := by
  obtain ⟨mna, ta, pa, fa⟩ := ha
  obtain ⟨mnl, tl, pl, fl⟩ := hl
  obtain ⟨mnh, th, ph, fh⟩ := hh
  refine ⟨fun xq s n Q Q' hq h => mna _ _ _ _ _ (fun _ _ h => mnl _ _ _ _ _ (fun _ _ h => mnh _ _ _ _ _ (fun _ _ ⟨r, e, q⟩ => ⟨r, e, hq _ _ q⟩) h) h) h, _,
    pe_slice (SlR.or sl_list (SlR.or sl_tupA sl_str)) pa pl ph, fun aS A0 H0 σ H s n xq Q S L hm => ?_⟩
  refine fa aS A0 H0 σ H s n xq _ S L (mna _ _ _ _ _ (fun d1 n1 q0 v1 H1 k1 st1 r0 => ?_) hm)
  refine fl aS A0 H0 σ H1 s n1 xq _ (S.step k1 st1) L (mnl _ _ _ _ _ (fun d2 n2 q2 H2 k2 st2 => ?_) q0)
  refine fh aS A0 H0 σ H2 s n2 xq _ ((S.step k1 st1).step k2 st2) L (mnh _ _ _ _ _ (fun d3 n3 q3 H3 k3 st3 => ?_) q2)
  obtain ⟨r, e, q⟩ := q3
  have r1 := (r0.kp k2 st1 AV.st).kp k3 st2 AV.st
  clear r0
  have kk := (k1.trans k2).trans k3
  have c := (S.step kk st3).cn
  unfold dSl at e
  split at e
  · cases e
    obtain ⟨p, xs, e1, _, h1, rl⟩ := repB_lst r1
    exact .inl ⟨p, xs, e1, SqL.of h1, fun q' hq' => q _ _ (kk.trans (KpS.upd hq')) (st3.upd hq') ((own_new hq' rl.cut).rep (c.new hq'))⟩
  · cases e
    rename_i ds
    obtain ⟨p, xs, e1, h1, rl⟩ := repB_tup r1
    refine .inr (.inl ⟨p, xs, e1, h1.sq, fun hw => q _ _ kk st3 (rep_tup h1 ?_), fun _ q' hq' => q _ _ (kk.trans (KpS.upd hq')) (st3.upd hq') (rep_tup (.inl upd_same) (rl.cut.kpu c hq'))⟩)
    have e2 : cutL ds d2 d3 = ds := by
      unfold cutL
      rw [← rl.length, hw.1, hw.2, List.drop_zero, Nat.sub_zero, rl.length, List.take_length]
    rw [e2]
    exact rl
  · split at e
    · rename_i x hl
      cases e
      exact .inr (.inr ⟨x, repB_str r1, lim_line hl, q _ _ kk st3 rep_str⟩)
    · cases e
  · cases e
end
/-! ### calls of built-ins -/
def dLen : List D → Option D
  | [.lst xs] => some (.int xs.length)
  | [.tup xs] => some (.int xs.length)
  | [.str x] => if x.length ≤ LIM then some (.int x.length) else none
  | [.dic kvs] => some (.int kvs.length)
  | _ => none
theorem rl_one {R : RK} {K : PySem.W.Frag} {aS : Addr} {H : Hp} {A : AS} {d : D} {vs : List V} (h : RL R K aS H A [d] vs) : ∃ v, vs = [v] ∧ R K aS H A d v := by
  obtain ⟨v, vr, e, r, q⟩ := h
  have q : vr = [] := q
  exact ⟨v, by rw [e, q], r⟩
theorem rl_two {R : RK} {K : PySem.W.Frag} {aS : Addr} {H : Hp} {A : AS} {d1 d2 : D} {vs : List V} (h : RL R K aS H A [d1, d2] vs) : ∃ v w, vs = [v, w] ∧ R K aS H A d1 v ∧ R K aS H A d2 w := by
  obtain ⟨v, vr, e, r, q⟩ := h
  obtain ⟨w, e2, r2⟩ := rl_one q
  exact ⟨v, w, by rw [e, e2], r, r2⟩
theorem RepK.length {K : PySem.W.Frag} {aS : Addr} {H : Hp} {A : AS} : ∀ {ds : List (Key × D)} {vs : List (Key × V)}, RepK K aS H A ds vs → vs.length = ds.length
  | [], _, h => by rw [RepK] at h; rw [h]; rfl
  | (k, d) :: ds, vs, h => by
    rw [RepK] at h
    obtain ⟨v, vr, e, r, q⟩ := h
    rw [e, List.length_cons, List.length_cons, RepK.length q]
theorem RepK.keys {K : PySem.W.Frag} {aS : Addr} {H : Hp} {A : AS} : ∀ {ds : List (Key × D)} {vs : List (Key × V)}, RepK K aS H A ds vs → vs.map (·.1) = ds.map (·.1)
  | [], _, h => by rw [RepK] at h; rw [h]; rfl
  | (k, d) :: ds, vs, h => by
    rw [RepK] at h
    obtain ⟨v, vr, e, r, q⟩ := h
    rw [e, List.map_cons, List.map_cons, RepK.keys q]
def kD : Key → D
  | .inl i => .int i
  | .inr x => .str x
theorem rep_kD {K : PySem.W.Frag} {aS : Addr} {H : Hp} {A : AS} (k : Key) : Rep K aS H A (kD k) (kV k) := by
  cases k with
  | inl i => exact rep_int
  | inr x => exact rep_str
theorem rep_keys {K : PySem.W.Frag} {aS : Addr} {H : Hp} {A : AS} : ∀ ks : List Key, RepL K aS H A (ks.map kD) (ks.map kV)
  | [] => RepL.nil
  | k :: ks => RepL.cons (rep_kD k) (rep_keys ks)
section
variable {X : Cx}
/-- len of a dict, locked or not -/
theorem call_lenR : CallR X (.builtin "len") (fun xs H Q => ∃ a kvs, xs = [V.ref a] ∧ Rd H a (.dK kvs) ∧ Q (.int kvs.length) H) :=
  fun _ _ _ H _ _ _ inv rel ⟨_, kvs, ex, rd, q⟩ => by
    subst ex
    obtain ⟨u, eu, ru⟩ := vals1 rel
    subst eu
    cases ru
    exact d_len inv rd fun t _ inv' => ⟨.int kvs.length, H, inv', ⟨t, rfl⟩, q⟩
theorem cd_len : CallD X (.builtin "len") dLen := by
  refine ⟨_, CallR.or call_len call_lenR, fun aS H A n ds d vs Q c rl e w => ?_⟩
  unfold dLen at e
  split at e
  · cases e
    obtain ⟨v, e1, r⟩ := rl_one rl
    obtain ⟨p, xs, e2, _, h1, q⟩ := repB_lst r
    subst e1 e2
    refine .inl ⟨_, xs.length, rfl, .inl ⟨xs, SqL.of h1, rfl⟩, ?_⟩
    rw [q.length]
    exact w _ _ KpS.refl c.st rep_int
  · cases e
    obtain ⟨v, e1, r⟩ := rl_one rl
    obtain ⟨p, xs, e2, h1, q⟩ := repB_tup r
    subst e1 e2
    refine .inl ⟨_, xs.length, rfl, .inr ⟨xs, h1.sq, rfl⟩, ?_⟩
    rw [q.length]
    exact w _ _ KpS.refl c.st rep_int
  · split at e
    · rename_i x hl
      cases e
      obtain ⟨v, e1, r⟩ := rl_one rl
      have e2 := repB_str r
      subst e1 e2
      exact .inl ⟨_, _, rfl, ⟨lim_line hl, rfl⟩, w _ _ KpS.refl c.st rep_int⟩
    · cases e
  · cases e
    obtain ⟨v, e1, r⟩ := rl_one rl
    obtain ⟨p, xs, e2, _, h1, q⟩ := repB_dic r
    subst e1 e2
    refine .inr ⟨_, xs, rfl, h1, ?_⟩
    rw [q.length]
    exact w _ _ KpS.refl c.st rep_int
  · cases e
/-- what a walk over the keys has gathered are the keys -/
theorem keys_got {kvs : List (Key × V)} {vs : List (Key × Value)} {acc : Array Value} (rel : KV kvs vs) (len : acc.size = vs.length) (each : ∀ (j : Nat) (w : Value), acc[j]? = some w → ∃ (k : Key) (y : Value), vs[j]? = some (k, y) ∧ keyIs k w = true) : Vals ((kvs.map (·.1)).map kV) acc.toList :=
  vals_of_at (by simpa [len] using KV.length rel) fun j x w ex ew => by
    obtain ⟨k, y, at_, is⟩ := each j w (by rwa [Array.getElem?_toList] at ew)
    have key : ((kvs.map (·.1)).map kV)[j]? = some (kV k) := by rw [KV.keys rel, List.getElem?_map, List.getElem?_map, at_]; rfl
    cases key.symm.trans ex
    exact keyIs_rel is
/-- list(d), whether d is locked or not -/
theorem call_listR (hc : X.calm = true) : CallR X (.type "list") (fun xs H Q => ∃ p kvs, xs = [.ref p] ∧ Rd H p (.dK kvs) ∧ ∀ q, H q = none → Q (.ref q) (upd H q (.lst ((kvs.map (·.1)).map kV)))) :=
  fun pins s σ H _ _ Q inv rel ⟨p, kvs, ex, rd, q⟩ => by
    subst ex
    obtain ⟨u, eu, ru⟩ := vals1 rel
    subst eu
    cases ru
    obtain ⟨few, notSys, vs, kv, dict⟩ := dk_rd inv.hok rd
    obtain ⟨ep, laid⟩ := dict.dictAt
    refine PySem.W.kdl_call (PySem.W.kdl_dict (knd := mixKind X.prog X.w) (kvs := vs) (ep := ep) notSys) (inv.ok.hd hc) laid (KV.length kv ▸ few) fun h' tk acc c' same made got => ?_
    have new : ObjOk X.prog X.w (upd H s.heap.objs.size (.lst ((kvs.map (·.1)).map kV))) h' s.heap.objs.size (.lst ((kvs.map (·.1)).map kV)) := ⟨by simpa using few, _, c', keys_got kv got.1 got.2, by simpa using made⟩
    exact ⟨.ref s.heap.objs.size, _, inv.laid same (Nat.le_refl _) new, rfl, q _ (inv.hok.fresh (Nat.le_refl _))⟩
def dList : List D → Option D
  | [.lst xs] => some (.lst xs)
  | [.tup xs] => some (.lst xs)
  | [.dic kvs] => some (.lst ((kvs.map (·.1)).map kD))
  | _ => none
theorem cf_list (hc : X.calm = true) : CallF X (.type "list") dList := by
  refine ⟨_, CallR.or call_list_of (call_listR hc), fun aS H A n ds d vs Q c rl e w => ?_⟩
  unfold dList at e
  split at e
  · cases e
    obtain ⟨v, e1, r⟩ := rl_one rl
    obtain ⟨p, xs, e2, _, h1, q⟩ := repB_lst r
    subst e1 e2
    exact .inl ⟨p, xs, rfl, .inl (SqL.of h1), fun l hl => w _ _ hl (KpS.upd hl) (c.st.upd hl) (own_new hl q)⟩
  · cases e
    obtain ⟨v, e1, r⟩ := rl_one rl
    obtain ⟨p, xs, e2, h1, q⟩ := repB_tup r
    subst e1 e2
    exact .inl ⟨p, xs, rfl, .inr h1.sq, fun l hl => w _ _ hl (KpS.upd hl) (c.st.upd hl) (own_new hl q)⟩
  · cases e
    obtain ⟨v, e1, r⟩ := rl_one rl
    obtain ⟨p, xs, e2, _, h1, q⟩ := repB_dic r
    subst e1 e2
    refine .inr ⟨p, xs, rfl, h1, fun l hl => w _ _ hl (KpS.upd hl) (c.st.upd hl) (own_new hl ?_)⟩
    rw [q.keys]
    exact rep_keys _
  · cases e
def dTuple : List D → Option D
  | [.lst xs] => some (.tup xs)
  | [.tup xs] => some (.tup xs)
  | _ => none
theorem cd_tuple : CallD X (.type "tuple") dTuple := by
  refine ⟨_, call_tuple_of, fun aS H A n ds d vs Q c rl e w => ?_⟩
  unfold dTuple at e
  split at e
  · cases e
    obtain ⟨v, e1, r⟩ := rl_one rl
    obtain ⟨p, xs, e2, _, h1, q⟩ := repB_lst r
    subst e1 e2
    exact ⟨p, xs, rfl, .inl ⟨SqL.of h1, fun l hl => w _ _ (KpS.upd hl) (c.st.upd hl) (rep_tup (.inl upd_same) (q.kpu c hl))⟩⟩
  · cases e
    obtain ⟨v, e1, r⟩ := rl_one rl
    obtain ⟨p, xs, e2, h1, q⟩ := repB_tup r
    subst e1 e2
    exact ⟨p, xs, rfl, .inr ⟨h1.sq, w _ _ KpS.refl c.st (rep_tup h1 q)⟩⟩
  · cases e
/-! all, any, sum -/
def boolsD : List D → Option (List Bool)
  | [] => some []
  | .bl b :: ds => (boolsD ds).map (b :: ·)
  | _ => none
theorem bools_rep {K : PySem.W.Frag} {aS : Addr} {H : Hp} {A : AS} : ∀ {ds : List D} {bs : List Bool} {vs : List V}, boolsD ds = some bs → RepL K aS H A ds vs → vs = bs.map V.bl
  | [], bs, vs, h, r => by
    rw [RepL] at r
    cases h
    exact r
  | d :: ds, bs, vs, h, r => by
    rw [RepL] at r
    obtain ⟨v, vr, e, r1, q⟩ := r
    cases d with
    | bl b =>
      rw [boolsD] at h
      cases hb : boolsD ds with
      | none => rw [hb] at h; cases h
      | some cs =>
        rw [hb] at h
        cases h
        simp only [Rep] at r1
        rw [e, r1, bools_rep hb q]
        rfl
    | _ => cases h
def dAll : List D → Option D
  | [.lst xs] => (boolsD xs).map fun bs => .bl (bs.all id)
  | _ => none
theorem cd_all (hc : X.calm = true) : CallD X (.builtin "all") dAll := by
  refine ⟨_, cr_all hc, fun aS H A n ds d vs Q c rl e w => ?_⟩
  unfold dAll at e
  split at e
  · rename_i xs
    cases hb : boolsD xs with
    | none => rw [hb] at e; cases e
    | some bs =>
      rw [hb] at e
      cases e
      obtain ⟨v, e1, r⟩ := rl_one rl
      obtain ⟨p, us, e2, _, h1, q⟩ := repB_lst r
      subst e1 e2
      rw [bools_rep hb q] at h1
      exact ⟨p, bs, rfl, SqL.of h1, w _ _ KpS.refl c.st rep_bl⟩
  · cases e
/-! isinstance -/
def tyD : D → Option String
  | .non => some "NoneType"
  | .bl _ => some "bool"
  | .int _ => some "int"
  | .str _ => some "str"
  | .lst _ => some "list"
  | .tup _ => some "tuple"
  | .dic _ => some "dict"
  | _ => none
def isTy (a b : String) : Bool := a == b || (a == "bool" && b == "int")
def isB (b : String) : Bool := b == "int" || b == "bool" || b == "str" || b == "list" || b == "tuple" || b == "dict"
theorem kit_tab : ∀ a ∈ ["NoneType", "bool", "int", "str", "list", "tuple", "dict"], ∀ b ∈ ["int", "bool", "str", "list", "tuple", "dict"], kitB a b = some (isTy a b) := by decide +kernel
theorem kit_of_ty {K : PySem.W.Frag} {a b : String} (ha : a ∈ ["NoneType", "bool", "int", "str", "list", "tuple", "dict"]) (hb : isB b = true) : PySem.W.kitOne K (.type a) (.type b) = some (isTy a b) := by
  refine kit_ty (kit_tab a ha b ?_)
  simpa [isB, Bool.or_eq_true, or_assoc] using hb
theorem tyX_of {K : PySem.W.Frag} {aS : Addr} {H : Hp} {A : AS} {d : D} {v : V} {a : String} (h : tyD d = some a) (r : RepB K aS H A d v) : TyX K H v (.type a) ∧ a ∈ ["NoneType", "bool", "int", "str", "list", "tuple", "dict"] := by
  cases d <;> simp only [tyD, Option.some.injEq, reduceCtorEq] at h <;> subst h
  · rw [repB_non r]; exact ⟨.base .non, by simp⟩
  · rw [repB_bl r]; exact ⟨.base (.bl _), by simp⟩
  · rw [repB_int r]; exact ⟨.base (.int _), by simp⟩
  · rw [repB_str r]; exact ⟨.base (.str _), by simp⟩
  · obtain ⟨p, xs, e, h1, q⟩ := repB_tup r
    subst e
    refine ⟨?_, by simp⟩
    rcases h1 with h1 | ⟨o, its, n, hk, hc, _⟩
    · exact .base (.tup h1)
    · exact .kTuple hk hc
  · obtain ⟨p, xs, e, _, h1, q⟩ := repB_lst r
    subst e
    exact ⟨.base (.lst h1), by simp⟩
  · obtain ⟨p, xs, e, _, h1, q⟩ := repB_dic r
    subst e
    refine ⟨?_, by simp⟩
    rcases h1 with h1 | ⟨o, h1⟩
    · exact .base (.dK h1)
    · exact .fDict h1
def tysD : List D → Option (List String)
  | [] => some []
  | .raw (.ty T) :: ds => if isB T = true then (tysD ds).map (T :: ·) else none
  | _ => none
theorem tys_rep {K : PySem.W.Frag} {aS : Addr} {H : Hp} {A : AS} {a : String} (ha : a ∈ ["NoneType", "bool", "int", "str", "list", "tuple", "dict"]) : ∀ {ds : List D} {bs : List String} {vs : List V}, tysD ds = some bs → RepL K aS H A ds vs →
    Paired ClsV vs (bs.map Value.type) ∧ PySem.W.kitAny K (.type a) (bs.map Value.type) = some (bs.any (isTy a))
  | [], bs, vs, h, r => by
    rw [RepL] at r
    subst r
    cases h
    exact ⟨.nil, rfl⟩
  | d :: ds, bs, vs, h, r => by
    rw [RepL] at r
    obtain ⟨v, vr, e, r1, q⟩ := r
    subst e
    unfold tysD at h
    split at h
    · rename_i hz; cases hz
    · rename_i T ds' heq
      cases heq
      split at h
      · rename_i hT
        cases hb : tysD ds with
        | none => rw [hb] at h; cases h
        | some cs =>
          rw [hb] at h
          cases h
          obtain ⟨i1, i2⟩ := tys_rep ha hb q
          simp only [Rep] at r1
          subst r1
          refine ⟨.cons (.ty T) i1, ?_⟩
          rw [List.map_cons, List.any_cons]
          refine kitAny_cons (kit_of_ty ha hT) (fun z => ?_) (fun z => ?_)
          · rw [z, Bool.false_or]; exact i2
          · rw [z]; rfl
      · cases h
    · cases h
def dIsi : List D → Option D
  | [x, .raw (.ty T)] => if isB T = true then (tyD x).map fun a => .bl (isTy a T) else none
  | [x, .tup ts] => match tyD x, tysD ts with
    | some a, some bs => some (.bl (bs.any (isTy a)))
    | _, _ => none
  | _ => none
theorem cd_isi : CallD X (.builtin "isinstance") dIsi := by
  refine ⟨_, CallR.or call_isi (CallR.or call_isiT call_isiK), fun aS H A n ds d vs Q c rl e w => ?_⟩
  unfold dIsi at e
  split at e
  · rename_i x T
    split at e
    · rename_i hT
      cases ht : tyD x with
      | none => rw [ht] at e; cases e
      | some a =>
        rw [ht] at e
        cases e
        obtain ⟨v, u, e1, r1, r2⟩ := rl_two rl
        have e2 := repB_raw r2
        subst e1 e2
        obtain ⟨t1, t2⟩ := tyX_of ht r1
        exact .inl ⟨v, .ty T, .type a, .type T, _, rfl, .ty T, t1, kit_of_ty t2 hT, w _ _ KpS.refl c.st rep_bl⟩
    · cases e
  · rename_i x ts
    split at e
    · rename_i a bs ht hts
      cases e
      obtain ⟨v, u, e1, r1, r2⟩ := rl_two rl
      obtain ⟨p, us, e2, h1, q⟩ := repB_tup r2
      subst e1 e2
      obtain ⟨t1, t2⟩ := tyX_of ht r1
      obtain ⟨i1, i2⟩ := tys_rep t2 hts q
      rcases h1 with h1 | ⟨⟨oc, od, odt, osl⟩, its, n, hk, hc, hdt, _, hv⟩
      · exact .inr (.inl ⟨v, p, us, .type a, bs.map Value.type, _, rfl, h1, i1, t1, i2, w _ _ KpS.refl c.st rep_bl⟩)
      · cases hc
        cases hdt
        have ez := ClsV.all i1 hv
        refine .inr (.inr ⟨v, p, od, bs.map Value.type, n, osl, .type a, _, rfl, ?_, t1, i2, w _ _ KpS.refl c.st rep_bl⟩)
        rw [hk, ← ez, Array.toArray_toList]
    · cases e
  · cases e
end
end DL
namespace DL
open PySem PySem.Spec PyProof.Rows L2
variable [TabC]
section
variable {K : PySem.W.Frag} {aS a : Addr} {H H' H'' H0 H1 : Hp} {A A' : AS} {A0 : A0T} {O O' : List Nat} {σ : L2.St} {s : Ev} {n n' i : Nat} {d : D} {v : V}
theorem set_other {α : Type} {l : List α} {i j : Nat} {x : α} (h : j ≠ i) : (l.set i x)[j]? = l[j]? := List.getElem?_set_ne (Ne.symm h)
theorem AV.set {A0 : AS} {x : Option V} (hi : i ∉ O) : AV aS A0 O (σ.set i x) = AV aS A0 O σ := by
  funext b
  unfold AV
  refine propext ⟨fun h => ?_, fun h => ?_⟩
  · rcases h with h | h | ⟨j, hj, e⟩
    · exact .inl h
    · exact .inr (.inl h)
    · rw [set_other (show j ≠ i from fun z => hi (z ▸ hj))] at e
      exact .inr (.inr ⟨j, hj, e⟩)
  · rcases h with h | h | ⟨j, hj, e⟩
    · exact .inl h
    · exact .inr (.inl h)
    · refine .inr (.inr ⟨j, hj, ?_⟩)
      rw [set_other (show j ≠ i from fun z => hi (z ▸ hj))]
      exact e
/-- a slot that owns nothing is stored -/
theorem SR.set (S : SR K aS O A0 H0 σ H s n) (hi : i ∉ O) (r : Rep K aS H (AV aS A0 O σ) d v) : SR K aS O A0 H0 (σ.set i (some v)) H (s.set i (some d)) n where
  len := by rw [List.length_set, List.length_set]; exact S.len
  sh := fun j d' e hj => by
    rw [AV.set hi]
    by_cases hji : j = i
    · subst hji
      have hl : j < s.length := by
        have := (List.getElem?_eq_some_iff.mp e).1
        rwa [List.length_set] at this
      rw [List.getElem?_set_self hl] at e
      cases e
      exact ⟨v, List.getElem?_set_self (by rw [S.len]; exact hl), r⟩
    · rw [set_other hji] at e
      rw [set_other hji]
      exact S.sh j d' e hj
  ow := fun j hj => by
    have hji : j ≠ i := fun z => hi (z ▸ hj)
    rw [AV.set hi, set_other hji, set_other hji]
    exact S.ow j hj
  ds := fun j k b hj hk e1 e2 => by
    rw [set_other (show j ≠ i from fun z => hi (z ▸ hj))] at e1
    rw [set_other (show k ≠ i from fun z => hi (z ▸ hk))] at e2
    exact S.ds j k b hj hk e1 e2
  fr := S.fr
  st := S.st
  av := S.av
  pn := fun h a e => by
    rw [set_other (show 0 ≠ i from fun z => hi (z ▸ h))]
    exact S.pn h a e
/-- slots give up what they own -/
theorem SR.rel (S : SR K aS O A0 H0 σ H s n) (h : ∀ j, j ∈ O' → j ∈ O) : SR K aS O' A0 H0 σ H s n := by
  have hle : ∀ b, AV aS A0 O' σ b → AV aS A0 O σ b := fun b z => by
    rcases z with z | z | ⟨j, hj, e⟩
    · exact .inl z
    · exact .inr (.inl z)
    · exact .inr (.inr ⟨j, h j hj, e⟩)
  refine ⟨S.len, fun j d' e hj => ?_, fun j hj => ?_, fun j k b hj hk => S.ds j k b (h j hj) (h k hk), S.fr, S.st, S.av, fun z => S.pn (h 0 z)⟩
  · by_cases ho : j ∈ O
    · obtain ⟨d'', b, e1, e2, e3, e4, e5, e6⟩ := S.ow j ho
      rw [e] at e1
      cases e1
      refine ⟨_, e2, (e6.mono hle).rep0 fun z => ?_⟩
      rcases z with z | z | ⟨k, hk, e⟩
      · exact e4 z
      · exact e5 z
      · exact hj (S.ds j k b ho (h k hk) e2 e ▸ hk)
    · obtain ⟨v, e1, r⟩ := S.sh j d' e ho
      exact ⟨v, e1, Rep.mono (sub_le hle) _ _ r⟩
  · obtain ⟨d'', b, e1, e2, e3, e4, e5, e6⟩ := S.ow j (h j hj)
    exact ⟨d'', b, e1, e2, e3, e4, e5, e6.mono hle⟩
/-- a new object is owned by a slot -/
theorem SR.own (S : SR K aS O A0 H0 σ H s n) (hi : i ∉ O) (hi0 : i ≠ 0) (hl : i < s.length) (ha : H a = none) (k : KpS aS H H') (t : StA K aS H' n') (o : Own K aS H' (fun b => AV aS A0 O σ b ∨ b = a) a d) : SR K aS (i :: O) A0 H0 (σ.set i (some (.ref a))) H' (s.set i (some d)) n' := by
  have hlσ : i < σ.length := by rw [S.len]; exact hl
  have eA : AV aS A0 (i :: O) (σ.set i (some (.ref a))) = fun b => AV aS A0 O σ b ∨ b = a := by
    funext b
    refine propext ⟨fun z => ?_, fun z => ?_⟩
    · rcases z with z | z | ⟨j, hj, e⟩
      · exact .inl (.inl z)
      · exact .inl (.inr (.inl z))
      · by_cases hji : j = i
        · subst hji
          rw [List.getElem?_set_self hlσ] at e
          cases e
          exact .inr rfl
        · rw [set_other hji] at e
          exact .inl (.inr (.inr ⟨j, (List.mem_cons.mp hj).resolve_left hji, e⟩))
    · rcases z with (z | z | ⟨j, hj, e⟩) | z
      · exact .inl z
      · exact .inr (.inl z)
      · refine .inr (.inr ⟨j, List.mem_cons_of_mem _ hj, ?_⟩)
        rw [set_other (show j ≠ i from fun z => hi (z ▸ hj))]
        exact e
      · refine .inr (.inr ⟨i, List.mem_cons_self, ?_⟩)
        rw [z]
        exact List.getElem?_set_self hlσ
  have hs := S.st.lst
  have sub : Sub K H H' (AV aS A0 O σ) (fun b => AV aS A0 O σ b ∨ b = a) := by
    obtain ⟨ys, hs⟩ := hs
    have ne : ∀ b, ¬ AV aS A0 O σ b → b ≠ aS := fun b h e => h (.inr (.inl e))
    refine ⟨fun b xs h q => ⟨fun z => z.elim h (ne_of_none q ha), k _ _ q (ne b h)⟩, fun b xs q => TpA.kp k hs q, fun b ys h q => ⟨fun z => z.elim h ?_, Rd.kp k (ne b h) q⟩, fun b ys h q => ⟨fun z => z.elim h ?_, RdM.kp k (ne b h) q⟩, fun b C dx ys h q => ⟨fun z => z.elim h (ne_of_none q ha), k _ _ q (ne b h)⟩, fun b u hu h q => ⟨fun z => z.elim h (ne_of_none q ha), k.xo hu q (ne b h)⟩⟩
    all_goals
      rcases q with q | ⟨_, q⟩
      · exact ne_of_none q ha
      · exact ne_of_none q ha
  have own_at : ∀ j, j ∈ O → ∃ d' b, s[j]? = some (some d') ∧ σ[j]? = some (some (.ref b)) ∧ H0 b = none ∧ ¬ A0 b ∧ b ≠ aS ∧ b ≠ a ∧ Own K aS H' (fun b => AV aS A0 O σ b ∨ b = a) b d' := fun j hj => by
    obtain ⟨d', b, e1, e2, e3, e4, e5, e6⟩ := S.ow j hj
    refine ⟨d', b, e1, e2, e3, e4, e5, fun z => S.new ha (.inr (.inr ⟨j, hj, z ▸ e2⟩)), ?_⟩
    cases d' with
    | lst ds => obtain ⟨xs, e, q⟩ := e6; exact ⟨xs, k _ _ e e5, RepL.mono sub _ _ q⟩
    | dic ds => obtain ⟨xs, e, q⟩ := e6; exact ⟨xs, k _ _ e e5, RepK.mono sub _ _ q⟩
    | dmx ds => obtain ⟨xs, e, q⟩ := e6; exact ⟨xs, k _ _ e e5, RepP.mono sub _ _ q⟩
    | obj C ds => obtain ⟨dx, xs, e, q⟩ := e6; exact ⟨dx, xs, k _ _ e e5, RepF.mono sub _ _ q⟩
    | _ => exact e6.elim
  refine ⟨by rw [List.length_set, List.length_set]; exact S.len, fun j d' e hj => ?_, fun j hj => ?_, fun j l b hj hk e1 e2 => ?_, S.fr.trans k, t, (S.step k t).av, fun z b e => by
    rw [set_other (Ne.symm hi0)]
    exact S.pn ((List.mem_cons.mp z).resolve_left (Ne.symm hi0)) b e⟩
  · rw [eA]
    have hji : j ≠ i := fun z => hj (z ▸ List.mem_cons_self)
    rw [set_other hji] at e ⊢
    obtain ⟨v, e1, r⟩ := S.sh j d' e (fun z => hj (List.mem_cons_of_mem _ z))
    exact ⟨v, e1, Rep.mono sub _ _ r⟩
  · rw [eA]
    by_cases hji : j = i
    · subst hji
      rw [List.getElem?_set_self hl, List.getElem?_set_self hlσ]
      refine ⟨d, a, rfl, rfl, ?_, fun z => S.new ha (.inl z), fun z => S.new ha (.inr (.inl z)), o⟩
      cases e : H0 a with
      | none => rfl
      | some u =>
        exact (KpS.gone S.fr ha e (fun z => S.new ha (.inr (.inl z)))).elim
    · rw [set_other hji, set_other hji]
      obtain ⟨d', b, e1, e2, e3, e4, e5, e6, e7⟩ := own_at j ((List.mem_cons.mp hj).resolve_left hji)
      exact ⟨d', b, e1, e2, e3, e4, e5, e7⟩
  · by_cases hji : j = i
    · by_cases hki : l = i
      · rw [hji, hki]
      · rw [hji, List.getElem?_set_self hlσ] at e1
        rw [set_other hki] at e2
        cases e1
        exact (S.new ha (.inr (.inr ⟨l, (List.mem_cons.mp hk).resolve_left hki, e2⟩))).elim
    · by_cases hki : l = i
      · rw [hki, List.getElem?_set_self hlσ] at e2
        rw [set_other hji] at e1
        cases e2
        exact (S.new ha (.inr (.inr ⟨j, (List.mem_cons.mp hj).resolve_left hji, e1⟩))).elim
      · rw [set_other hji] at e1
        rw [set_other hki] at e2
        exact S.ds j l b ((List.mem_cons.mp hj).resolve_left hji) ((List.mem_cons.mp hk).resolve_left hki) e1 e2
/-- what a slot owns is changed -/
theorem SR.mut {o o' : HO} (S : SR K aS O A0 H0 σ H s n) (hi : i ∈ O) (e : σ[i]? = some (some (.ref a))) (ho : H a = some o) (hk : ∀ xs, o ≠ .tup xs) (hf : ∀ ob u, o ≠ .frz ob u)
    (new : Own K aS (upd H a o') (AV aS A0 O σ) a d) : SR K aS O A0 H0 σ (upd H a o') (s.set i (some d)) n := by
  obtain ⟨d0, a', e1, e2, e3, e4, e5, e6⟩ := S.ow i hi
  rw [e] at e2
  cases e2
  have hl : i < s.length := (List.getElem?_eq_some_iff.mp e1).1
  have hA : AV aS A0 O σ a := .inr (.inr ⟨i, hi, e⟩)
  have up : ∀ b u, H b = some u → b ≠ a → upd H a o' b = some u := fun b u q z => by rw [upd_ne z]; exact q
  have sub : Sub K H (upd H a o') (AV aS A0 O σ) (AV aS A0 O σ) := by
    have ne : ∀ b, ¬ AV aS A0 O σ b → b ≠ a := fun b h z => h (z ▸ hA)
    refine ⟨fun b xs h q => ⟨h, up _ _ q (ne b h)⟩, fun b xs q => q.elim (fun q => .inl (up _ _ q fun z => ?_)) .inr, fun b ys h q => ⟨h, ?_⟩, fun b ys h q => ⟨h, ?_⟩, fun b C dx ys h q => ⟨h, up _ _ q (ne b h)⟩, fun b u _ h q => ⟨h, up _ _ q (ne b h)⟩⟩
    · rw [z, ho] at q
      cases q
      exact hk _ rfl
    all_goals
      rcases q with q | ⟨z, q⟩
      · exact .inl (up _ _ q (ne b h))
      · exact .inr ⟨z, up _ _ q (ne b h)⟩
  refine ⟨by rw [List.length_set]; exact S.len, fun j d' ej hj => ?_, fun j hj => ?_, S.ds, fun b u q z => (S.fr b u q z).trans fun v e' => .of (up _ _ e' (fun z => by rw [z, e3] at q; cases q)), ?_, fun b hb => ?_, S.pn⟩
  · have hji : j ≠ i := fun z => hj (z ▸ hi)
    rw [set_other hji] at ej
    obtain ⟨v, q1, r⟩ := S.sh j d' ej hj
    exact ⟨v, q1, Rep.mono sub _ _ r⟩
  · by_cases hji : j = i
    · subst hji
      rw [List.getElem?_set_self hl]
      exact ⟨d, a, rfl, e, e3, e4, e5, new⟩
    · rw [set_other hji]
      obtain ⟨d', b, q1, q2, q3, q4, q5, q6⟩ := S.ow j hj
      have hb : b ≠ a := fun z => hji (S.ds j i a hj hi (z ▸ q2) e)
      refine ⟨d', b, q1, q2, q3, q4, q5, ?_⟩
      cases d' with
      | lst ds => obtain ⟨xs, e, q⟩ := q6; exact ⟨xs, up _ _ e hb, RepL.mono sub _ _ q⟩
      | dic ds => obtain ⟨xs, e, q⟩ := q6; exact ⟨xs, up _ _ e hb, RepK.mono sub _ _ q⟩
      | dmx ds => obtain ⟨xs, e, q⟩ := q6; exact ⟨xs, up _ _ e hb, RepP.mono sub _ _ q⟩
      | obj C ds => obtain ⟨dx, xs, e, q⟩ := q6; exact ⟨dx, xs, up _ _ e hb, RepF.mono sub _ _ q⟩
      | _ => exact q6.elim
  · obtain ⟨a0, cs, i', g, m, d', z1, z2, ⟨ob, z3⟩, z4, z5, z6, z7, z8, z9, zt⟩ := S.st
    refine ⟨a0, cs, i', g, m, d', up _ _ z1 (Ne.symm e5), z2, ⟨ob, up _ _ z3 fun z => ?_⟩, z4, z5, z6, z7, z8, z9, tabs_poke zt ho (e6.plain ho).1 (e6.plain ho).2 (new.plain upd_same).1⟩
    rw [z, ho] at z3
    cases z3
    exact hf _ _ rfl
  · by_cases z : b = a
    · rw [z, upd_same]
      exact ⟨_, rfl⟩
    · obtain ⟨u, q⟩ := S.av b hb
      exact ⟨u, up _ _ q z⟩
/-- the heap without what slots own: what a loop's body starts from -/
noncomputable def bare (O : List Nat) (σ : L2.St) (H : Hp) : Hp := fun b => @ite _ (∃ i, i ∈ O ∧ σ[i]? = some (some (.ref b))) (Classical.propDecidable _) none (H b)
theorem bare_own {b : Addr} (h : ∃ i, i ∈ O ∧ σ[i]? = some (some (.ref b))) : bare O σ H b = none := by
  unfold bare
  rw [if_pos h]
theorem bare_not {b : Addr} (h : ¬ ∃ i, i ∈ O ∧ σ[i]? = some (some (.ref b))) : bare O σ H b = H b := by
  unfold bare
  rw [if_neg h]
theorem bare_some {b : Addr} {u : HO} (h : bare O σ H b = some u) : H b = some u := by
  by_cases z : ∃ i, i ∈ O ∧ σ[i]? = some (some (.ref b))
  · rw [bare_own z] at h; cases h
  · rw [bare_not z] at h; exact h
theorem SR.base (S : SR K aS O A0 H0 σ H s n) : SR K aS O A0 (bare O σ H) σ H s n :=
  ⟨S.len, S.sh, fun j hj => let ⟨d, b, e1, e2, e3, e4, e5, e6⟩ := S.ow j hj; ⟨d, b, e1, e2, bare_own ⟨j, hj, e2⟩, e4, e5, e6⟩, S.ds, fun b u q _ => .of (bare_some q), S.st, S.av, S.pn⟩
theorem SR.le (S : SR K aS O A0 H0 σ H s n) : KpS aS H0 (bare O σ H) := fun b u q z => by
  rw [bare_not]
  · exact S.fr b u q z
  · rintro ⟨j, hj, e⟩
    obtain ⟨d, b', e1, e2, e3, _⟩ := S.ow j hj
    rw [e] at e2
    cases e2
    rw [q] at e3
    cases e3
/-- from a later base back to the elder one -/
theorem SR.back (S : SR K aS O A0 H1 σ H s n) (h : KpS aS H0 H1) : SR K aS O A0 H0 σ H s n :=
  ⟨S.len, S.sh, fun j hj => let ⟨d, b, e1, e2, e3, e4, e5, e6⟩ := S.ow j hj
    ⟨d, b, e1, e2, Option.eq_none_iff_forall_ne_some.mpr fun u z => (KpS.gone h e3 z e5), e4, e5, e6⟩, S.ds, h.trans S.fr, S.st, S.av, S.pn⟩
end
end DL
namespace DL
open PySem PySem.Spec PyProof.Rows L2
variable [TabC]
/-! ### statements -/
def sNil : SM := fun _ de s n => de.nx s n
def sSeq (m r : SM) : SM := fun xq de s n => m xq { de with nx := fun s' n' => r xq de s' n' } s n
def sRet (m : EM D) : SM := fun xq de s n => m xq s n de.rt
def sSet (i : Nat) (m : EM D) : SM := fun xq de s n => m xq s n fun d n' => de.nx (s.set i (some d)) n'
def sIf (t : EM Bool) (a b : SM) : SM := fun xq de s n => t xq s n fun c n' => if c = true then a xq de s n' else b xq de s n'
def sDrop (m : EM D) : SM := fun xq de s n => m xq s n fun _ n' => de.nx s n'
def sNever : SM := fun _ _ _ _ => False
section
variable {X : Cx} {E : XK} {O O' O'' OL : List Nat} {e : Expr} {st : Stmt} {rest : List Stmt} {m : EM D} {ml : EM (List D)} {mt : EM Bool} {ms mr : SM} {pos : Pos} {i : Nat}
theorem vss_nil : VSs X E O O OL [] sNil := ⟨_, pss_nil, fun aS A0 H0 σ H s n xq de De S L k h => k.nx σ H s n S h⟩
theorem vss_cons (h1 : VS X E O O' OL st ms) (h2 : VSs X E O' O'' OL rest mr) : VSs X E O O'' OL (st :: rest) (sSeq ms mr) := by
  obtain ⟨t, p, f⟩ := h1
  obtain ⟨u, p2, f2⟩ := h2
  exact ⟨_, pss_cons p p2, fun aS A0 H0 σ H s n xq de De S L k h => f aS A0 H0 σ H s n xq { de with nx := fun s' n' => mr xq de s' n' } _ S L ⟨fun σ' H' s' n' S' q => f2 aS A0 H0 σ' H' s' n' xq de De S' L k q, k.rt, k.bk, k.ct⟩ h⟩
theorem vss_one (h1 : VS X E O O' OL st ms) : VSs X E O O' OL [st] ms := by
  obtain ⟨t, p, f⟩ := h1
  exact ⟨_, pss_one p, f⟩
/-- what is owned behind may be given up -/
theorem VSs.weak (h : VSs X E O O' OL rest ms) (hw : ∀ j, j ∈ O'' → j ∈ O') : VSs X E O O'' OL rest ms := by
  obtain ⟨t, p, f⟩ := h
  exact ⟨t, p, fun aS A0 H0 σ H s n xq de De S L k q => f aS A0 H0 σ H s n xq de De S L ⟨fun σ' H' s' n' S' q => k.nx σ' H' s' n' (S'.rel hw) q, k.rt, k.bk, k.ct⟩ q⟩
theorem VS.rel (h : VS X E O O' OL st ms) (hw : ∀ j, j ∈ O → j ∈ O'') : VS X E O'' O' OL st ms := by
  obtain ⟨t, p, f⟩ := h
  exact ⟨t, p, fun aS A0 H0 σ H s n xq de De S L k q => f aS A0 H0 σ H s n xq de De (S.rel hw) L k q⟩
theorem av_nil {aS : Addr} {A0 : AS} {O : List Nat} {σ : L2.St} : ∀ a, AV aS A0 [] [] a → AV aS A0 O σ a := fun a h => by
  rcases h with h | h | ⟨j, hj, _⟩
  · exact .inl h
  · exact .inr (.inl h)
  · cases hj
theorem vs_ret (h : VE X E O e m) : VS X E O O' OL (.Return (some e) pos) (sRet m) := by
  obtain ⟨mn, t, p, f⟩ := h
  refine ⟨_, ps_ret p, fun aS A0 H0 σ H s n xq de De S L k h => f aS A0 H0 σ H s n xq _ S L (mn _ _ _ _ _ (fun d n' q v H' kp st r => k.rt v H' d n' (S.fr.trans kp) st (Rep.mono (sub_le av_nil) _ _ r) q) h)⟩
/-- return of a name that owns -/
theorem vs_retO {x : Str} {p' : Pos} (hi : i ∈ O) (hN : X.N[i]? = some x) (hv : Vis X.env.scope x) (hd : (x == ("__debug__" : Str)) = false := by decide) (hcd : (x == ("__classdict__" : Str)) = false := by decide) : VS X E O O' OL (.Return (some (.Name x p')) pos) (sRet (eVar i)) := by
  refine ⟨_, ps_ret (pe_var hN hv hd hcd), fun aS A0 H0 σ H s n xq de De S L k h => ?_⟩
  obtain ⟨d, e, q⟩ := h
  have S' := S.rel (O' := []) (fun _ z => nomatch z)
  obtain ⟨v, ev, r⟩ := S'.sh i d e (fun z => nomatch z)
  exact ⟨v, ev, k.rt v H d n S.fr S.st (Rep.mono (sub_le av_nil) _ _ r) q⟩
theorem vs_if {c : Expr} {a b : List Stmt} {ma mb : SM} (hc : VT X E O c mt) (ha : VSs X E O O' OL a ma) (hb : VSs X E O O' OL b mb) : VS X E O O' OL (.If c a b pos) (sIf mt ma mb) := by
  obtain ⟨mnc, tc, pc, fc⟩ := hc
  obtain ⟨ta, pa, fa⟩ := ha
  obtain ⟨tb, pb, fb⟩ := hb
  refine ⟨_, ps_if pc pa pb, fun aS A0 H0 σ H s n xq de De S L k h => fc aS A0 H0 σ H s n xq _ S L (mnc _ _ _ _ _ (fun c n1 q H1 k1 st1 => ?_) h)⟩
  cases c with
  | true => exact fa aS A0 H0 σ H1 s n1 xq de De (S.step k1 st1) L k q
  | false => exact fb aS A0 H0 σ H1 s n1 xq de De (S.step k1 st1) L k q
theorem vss_never : VSs X E O O' OL rest sNever := ⟨_, pss_never, fun aS A0 H0 σ H s n xq de De S L k h => h⟩
/-- name = e, the name owns nothing behind -/
theorem vs_set {x : Str} {p' : Pos} (hi : i ∉ O) (hnd : X.N.Nodup) (hN : X.N[i]? = some x) (hx : Loc X.env.scope x) (h : VE X E O e m) (hs : swapsWith e (some (.Name x p')) pos.line X.env = pure false := by rfl)
    (hf : X.fn x = true ∨ X.env.scope.names.lookup x = some .local := by first | exact .inl rfl | exact .inr rfl | assumption) : VS X E O O OL (.Assign [.Name x p'] e pos) (sSet i m) := by
  obtain ⟨mn, t, p, f⟩ := h
  refine ⟨_, ps_set hnd hN hx p hs hf, fun aS A0 H0 σ H s n xq de De S L k h => f aS A0 H0 σ H s n xq _ S L (mn _ _ _ _ _ (fun d n' q v H' kp st r => ?_) h)⟩
  exact k.nx _ H' _ n' ((S.step kp st).set hi r) q
/-- name = a new object: the name owns it -/
theorem vs_setF {x : Str} {p' : Pos} (hi : i ∉ O) (hi0 : i ≠ 0) (hnd : X.N.Nodup) (hN : X.N[i]? = some x) (hx : Loc X.env.scope x) (h : VF X E O e m) (hs : swapsWith e (some (.Name x p')) pos.line X.env = pure false := by rfl)
    (hf : X.fn x = true ∨ X.env.scope.names.lookup x = some .local := by first | exact .inl rfl | exact .inr rfl | assumption) : VS X E O (i :: O) OL (.Assign [.Name x p'] e pos) (fun xq de s n => i < s.length ∧ sSet i m xq de s n) := by
  obtain ⟨mn, t, p, f⟩ := h
  refine ⟨_, ps_set hnd hN hx p hs hf, fun aS A0 H0 σ H s n xq de De S L k h => f aS A0 H0 σ H s n xq _ S L (mn _ _ _ _ _ (fun d n' q a H' ha kp st o => ?_) h.2)⟩
  exact k.nx _ H' _ n' (S.own hi hi0 h.1 ha kp st o) q
theorem vs_expr (h : VE X E O e m) (hs : swapsWith e none pos.line X.env = pure false := by rfl) : VS X E O O OL (.Expr e pos) (sDrop m) := by
  obtain ⟨mn, t, p, f⟩ := h
  exact ⟨_, ps_expr p hs, fun aS A0 H0 σ H s n xq de De S L k h => f aS A0 H0 σ H s n xq _ S L (mn _ _ _ _ _ (fun d n' q v H' kp st r => k.nx _ H' _ n' (S.step kp st) q) h)⟩
/-! ### lists that are owned -/
def sApp (i : Nat) (m : EM D) : SM := fun xq de s n => ∃ ds, s[i]? = some (some (.lst ds)) ∧ m xq s n fun d n' => ds.length < LIM ∧ de.nx (s.set i (some (.lst (ds ++ [d])))) n'
def sIns (i : Nat) (m : EM (List D)) : SM := fun xq de s n => ∃ ds, s[i]? = some (some (.lst ds)) ∧ m xq s n fun l n' => ∃ (k : Nat) (d : D), l = [.int k, d] ∧ ds.length < LIM ∧ k ≤ LIM ∧ de.nx (s.set i (some (.lst (ds.take k ++ [d] ++ ds.drop k)))) n'
theorem own_lst {K : PySem.W.Frag} {aS : Addr} {H H0 : Hp} {A0 : A0T} {O : List Nat} {σ : L2.St} {s : Ev} {n i : Nat} {ds : List D} (S : SR K aS O A0 H0 σ H s n) (hi : i ∈ O) (e : s[i]? = some (some (.lst ds))) : ∃ a xs, σ[i]? = some (some (.ref a)) ∧ a ≠ aS ∧ H a = some (.lst xs) ∧ RepL K aS H (AV aS A0 O σ) ds xs := by
  obtain ⟨d, a, e1, e2, e3, e4, e5, e6⟩ := S.ow i hi
  rw [e] at e1
  cases e1
  obtain ⟨xs, h, r⟩ := e6
  exact ⟨a, xs, e2, e5, h, r⟩
theorem own_dic {K : PySem.W.Frag} {aS : Addr} {H H0 : Hp} {A0 : A0T} {O : List Nat} {σ : L2.St} {s : Ev} {n i : Nat} {ds : List (Key × D)} (S : SR K aS O A0 H0 σ H s n) (hi : i ∈ O) (e : s[i]? = some (some (.dic ds))) : ∃ a xs, σ[i]? = some (some (.ref a)) ∧ a ≠ aS ∧ H a = some (.dK xs) ∧ RepK K aS H (AV aS A0 O σ) ds xs := by
  obtain ⟨d, a, e1, e2, e3, e4, e5, e6⟩ := S.ow i hi
  rw [e] at e1
  cases e1
  obtain ⟨xs, h, r⟩ := e6
  exact ⟨a, xs, e2, e5, h, r⟩
theorem own_dmx {K : PySem.W.Frag} {aS : Addr} {H H0 : Hp} {A0 : A0T} {O : List Nat} {σ : L2.St} {s : Ev} {n i : Nat} {ds : List (D × D)} (S : SR K aS O A0 H0 σ H s n) (hi : i ∈ O) (e : s[i]? = some (some (.dmx ds))) : ∃ a xs, σ[i]? = some (some (.ref a)) ∧ a ≠ aS ∧ H a = some (MD.MixO TabC.w a xs) ∧ RepP K aS H (AV aS A0 O σ) ds xs := by
  obtain ⟨d, a, e1, e2, e3, e4, e5, e6⟩ := S.ow i hi
  rw [e] at e1
  cases e1
  obtain ⟨xs, h, r⟩ := e6
  exact ⟨a, xs, e2, e5, h, r⟩
/-- the list a slot owns is another one -/
theorem SR.mutL {K : PySem.W.Frag} {aS a : Addr} {H H0 : Hp} {A0 : A0T} {σ : L2.St} {s : Ev} {n : Nat} {ds : List D} {xs ys : List V} (S : SR K aS O A0 H0 σ H s n) (hi : i ∈ O) (e : σ[i]? = some (some (.ref a))) (ho : H a = some (.lst xs)) (r : RepL K aS H (AV aS A0 O σ) ds ys) :
    SR K aS O A0 H0 σ (upd H a (.lst ys)) (s.set i (some (.lst ds))) n := by
  refine S.mut hi e ho (fun _ z => nomatch z) (fun _ _ z => nomatch z) ⟨ys, upd_same, ?_⟩
  have hA : AV aS A0 O σ a := .inr (.inr ⟨i, hi, e⟩)
  have ne : ∀ b, ¬ AV aS A0 O σ b → b ≠ a := fun b h z => h (z ▸ hA)
  have up : ∀ b u, H b = some u → b ≠ a → upd H a (.lst ys) b = some u := fun b u q z => by rw [upd_ne z]; exact q
  refine RepL.mono ⟨fun b xs h q => ⟨h, up _ _ q (ne b h)⟩, fun b xs q => q.elim (fun q => .inl (up _ _ q fun z => ?_)) .inr, fun b ys h q => ⟨h, ?_⟩, fun b ys h q => ⟨h, ?_⟩, fun b C dx ys h q => ⟨h, up _ _ q (ne b h)⟩, fun b u _ h q => ⟨h, up _ _ q (ne b h)⟩⟩ _ _ r
  · have q : H b = _ := q
    rw [z, ho] at q
    cases q
  all_goals
    rcases q with q | ⟨z, q⟩
    · exact .inl (up _ _ q (ne b h))
    · exact .inr ⟨z, up _ _ q (ne b h)⟩
theorem SR.mutD {K : PySem.W.Frag} {aS a : Addr} {H H0 : Hp} {A0 : A0T} {σ : L2.St} {s : Ev} {n : Nat} {ds : List (Key × D)} {xs ys : List (Key × V)} (S : SR K aS O A0 H0 σ H s n) (hi : i ∈ O) (e : σ[i]? = some (some (.ref a))) (ho : H a = some (.dK xs)) (r : RepK K aS H (AV aS A0 O σ) ds ys) :
    SR K aS O A0 H0 σ (upd H a (.dK ys)) (s.set i (some (.dic ds))) n := by
  refine S.mut hi e ho (fun _ z => nomatch z) (fun _ _ z => nomatch z) ⟨ys, upd_same, ?_⟩
  have hA : AV aS A0 O σ a := .inr (.inr ⟨i, hi, e⟩)
  have ne : ∀ b, ¬ AV aS A0 O σ b → b ≠ a := fun b h z => h (z ▸ hA)
  have up : ∀ b u, H b = some u → b ≠ a → upd H a (.dK ys) b = some u := fun b u q z => by rw [upd_ne z]; exact q
  refine RepK.mono ⟨fun b xs h q => ⟨h, up _ _ q (ne b h)⟩, fun b xs q => q.elim (fun q => .inl (up _ _ q fun z => ?_)) .inr, fun b ys h q => ⟨h, ?_⟩, fun b ys h q => ⟨h, ?_⟩, fun b C dx ys h q => ⟨h, up _ _ q (ne b h)⟩, fun b u _ h q => ⟨h, up _ _ q (ne b h)⟩⟩ _ _ r
  · have q : H b = _ := q
    rw [z, ho] at q
    cases q
  all_goals
    rcases q with q | ⟨z, q⟩
    · exact .inl (up _ _ q (ne b h))
    · exact .inr ⟨z, up _ _ q (ne b h)⟩
theorem SR.mutM {K : PySem.W.Frag} {aS a : Addr} {H H0 : Hp} {A0 : A0T} {σ : L2.St} {s : Ev} {n : Nat} {ds : List (D × D)} {xs ys : List MD.EntV} (S : SR K aS O A0 H0 σ H s n) (hi : i ∈ O) (e : σ[i]? = some (some (.ref a))) (ho : H a = some (MD.MixO TabC.w a xs)) (r : RepP K aS H (AV aS A0 O σ) ds ys) :
    SR K aS O A0 H0 σ (upd H a (MD.MixO TabC.w a ys)) (s.set i (some (.dmx ds))) n := by
  refine S.mut hi e ho (fun _ z => by unfold MD.MixO at z; cases z) (fun _ _ z => by unfold MD.MixO at z; cases z) ⟨ys, upd_same, ?_⟩
  have hA : AV aS A0 O σ a := .inr (.inr ⟨i, hi, e⟩)
  have ne : ∀ b, ¬ AV aS A0 O σ b → b ≠ a := fun b h z => h (z ▸ hA)
  have up : ∀ b u, H b = some u → b ≠ a → upd H a (MD.MixO TabC.w a ys) b = some u := fun b u q z => by rw [upd_ne z]; exact q
  refine RepP.mono ⟨fun b xs h q => ⟨h, up _ _ q (ne b h)⟩, fun b xs q => q.elim (fun q => .inl (up _ _ q fun z => ?_)) .inr, fun b ys h q => ⟨h, ?_⟩, fun b ys h q => ⟨h, ?_⟩, fun b C dx ys h q => ⟨h, up _ _ q (ne b h)⟩, fun b u _ h q => ⟨h, up _ _ q (ne b h)⟩⟩ _ _ r
  · have q : H b = _ := q
    rw [z, ho] at q
    unfold MD.MixO at q
    cases q
  all_goals
    rcases q with q | ⟨z, q⟩
    · exact .inl (up _ _ q (ne b h))
    · exact .inr ⟨z, up _ _ q (ne b h)⟩
theorem lim_lt {k : Nat} (h : k < LIM) : k < sizeLine := by unfold LIM at h; rw [sizeLine_eq]; omega
theorem vs_append {x : Str} {p' ap cp : Pos} (hi : i ∈ O) (hN : X.N[i]? = some x) (hv : Vis X.env.scope x) (h : VE X E O e m)
    (hpe : ∀ {to : TE} {t : TA}, PE X (.Name x p') to → PA X [e] t → PE X (.Call (.Attribute (.Name x p') "append" ap) [e] [] cp) (tBM X.K "list" rAppend to t) := by
      intro to t h1 h2; exact pe_bm PySem.F.plainAttrs_list PySem.F.slot_list_append PySem.F.type_list_append mt_append h1 h2)
    (hs : swapsWith (.Call (.Attribute (.Name x p') "append" ap) [e] [] cp) none pos.line X.env = pure false := by rfl) (hst : starEach [e] X.env = (false, eval e X.env) :: starEach [] X.env := by rfl)
    (hd : (x == ("__debug__" : Str)) = false := by decide) (hcd : (x == ("__classdict__" : Str)) = false := by decide) : VS X E O O OL (.Expr (.Call (.Attribute (.Name x p') "append" ap) [e] [] cp) pos) (sApp i m) := by
  obtain ⟨mn, t, p, f⟩ := h
  refine ⟨_, ps_expr (hpe (pe_var hN hv hd hcd) (pa_cons p pa_nil hst)) hs, fun aS A0 H0 σ H s n xq de De S L k h => ?_⟩
  obtain ⟨ds, es, h⟩ := h
  obtain ⟨a, xs, z1, z2, z3, z4⟩ := own_lst S hi es
  refine ⟨_, z1, .inl ⟨rfl, _, SqL.of z3⟩, f aS A0 H0 σ H s n xq _ S L (mn _ _ _ _ _ (fun d n' q v H' kp st r => ?_) h)⟩
  have z3' := kp _ _ z3 z2
  have z4' := z4.kp kp S.st AV.st
  exact ⟨a, xs, v, rfl, rfl, z3', by rw [z4.length]; exact lim_lt q.1, k.nx _ _ _ _ ((S.step kp st).mutL hi z1 z3' (z4'.app (RepL.cons r RepL.nil))) q.2⟩
theorem vs_insert {x : Str} {e2 : Expr} {p' ap cp : Pos} (hi : i ∈ O) (hN : X.N[i]? = some x) (hv : Vis X.env.scope x) (h : VA Rep X E O [e, e2] ml)
    (hpe : ∀ {to : TE} {t : TA}, PE X (.Name x p') to → PA X [e, e2] t → ∃ r, PE X (.Call (.Attribute (.Name x p') "insert" ap) [e, e2] [] cp) (tBM X.K "list" r to t) ∧ ∀ v vs H Q, (∃ l xs i y, v = V.ref l ∧ vs = [V.int i, y] ∧ H l = some (HO.lst xs) ∧ xs.length < sizeLine ∧ 0 ≤ i ∧ i < 2 ^ 63 ∧ Q V.non (upd H l (HO.lst (List.take i.toNat xs ++ [y] ++ List.drop i.toNat xs)))) → r v vs H Q := by
      intro to t h1 h2; exact ⟨_, pe_bm PySem.F.plainAttrs_list PySem.F.slot_list_insert PySem.F.type_list_insert mt_insert h1 h2, fun _ _ _ _ h => h⟩)
    (hs : swapsWith (.Call (.Attribute (.Name x p') "insert" ap) [e, e2] [] cp) none pos.line X.env = pure false := by rfl)
    (hd : (x == ("__debug__" : Str)) = false := by decide) (hcd : (x == ("__classdict__" : Str)) = false := by decide) : VS X E O O OL (.Expr (.Call (.Attribute (.Name x p') "insert" ap) [e, e2] [] cp) pos) (sIns i ml) := by
  obtain ⟨mn, t, p, f⟩ := h
  obtain ⟨r, pe, hr⟩ := hpe (pe_var hN hv hd hcd) p
  refine ⟨_, ps_expr pe hs, fun aS A0 H0 σ H s n xq de De S L k h => ?_⟩
  obtain ⟨ds, es, h⟩ := h
  obtain ⟨a, xs, z1, z2, z3, z4⟩ := own_lst S hi es
  refine ⟨_, z1, .inl ⟨rfl, _, SqL.of z3⟩, f aS A0 H0 σ H s n xq _ S L (mn _ _ _ _ _ (fun d n' q v H' kp st r => ?_) h)⟩
  obtain ⟨j, d, ed, hl, hj, q⟩ := q
  subst ed
  obtain ⟨v1, v2, ev, r1, r2⟩ := rl_two r
  simp only [Rep] at r1
  subst ev r1
  have z3' := kp _ _ z3 z2
  have z4' := z4.kp kp S.st AV.st
  refine hr _ _ _ _ ⟨a, xs, j, v2, rfl, rfl, z3', by rw [z4.length]; exact lim_lt hl, by omega, by unfold LIM at hj; omega, ?_⟩
  rw [Int.toNat_natCast]
  exact k.nx _ _ _ _ ((S.step kp st).mutL hi z1 z3' (((z4'.take j).app (RepL.cons r2 RepL.nil)).app (z4'.drop j))) q
/-- f.append(xs.pop(e)), both owned -/
def sAppPop (j i : Nat) (m : EM D) : SM := fun xq de s n => ∃ fs ds, s[j]? = some (some (.lst fs)) ∧ s[i]? = some (some (.lst ds)) ∧ m xq s n fun d n' => ∃ (k : Nat) (x : D), d = .int k ∧ ds[k]? = some x ∧ ds.length ≤ LIM ∧ fs.length < LIM ∧ de.nx ((s.set i (some (.lst (ds.eraseIdx k)))).set j (some (.lst (fs ++ [x])))) n'
end
end DL
namespace DL
open PySem L2
open PySem.Spec
open PyProof.Rows
/-! enumerate of a tuple: the kit has the list alone -/
abbrev enumO (src : Addr) : Obj := { cls := .type "enumerate", data := .fields #[.none, .bool false, .ref src, rawInt 0, .none, .none] }
/-- enumerate.__new__ over whatever begins a walk -/
theorem new_enum {v : Value} {o : Obj} {C : Heap → Prop} (B : Begins v o C) :
    Meets (Builtin.«enumerate.__new__» ⟨[.type "enumerate", v], []⟩) (fun _ R s => C s.heap ∧ R (.ok (.ret (.ref (s.heap.push o).objs.size))) { s with heap := (s.heap.push o).push (enumO s.heap.objs.size) }) := by
  refine Meets.of_wp fun prog w A R s ⟨hC, hR⟩ => ?_
  cases s with
  | mk hp gs dd tk os =>
    have isub := sub_enumerate
    have start : ∀ {A' : Around} {E Q : Value → Shared → Prop}, Q (.ref hp.objs.size) ⟨hp.push o, gs, dd, tk, os⟩ → wpAny (model prog w) A' (pyIter v) Q E ⟨hp, gs, dd, tk, os⟩ := fun {A' E Q} q => B.iter prog w A' E ⟨hp, gs, dd, tk, os⟩ Q hC q
    wp_walk using start
    refine wpAny_stack_any fun _ => ?_
    refine wpAny_pure ?_
    split
    · next c _ _ _ _ _ =>
      generalize (c == Value.type "enumerate") = same
      cases same
      all_goals
        wp_walk using start
        exact ⟨_, rfl, hR⟩
    · wp_walk using start
      exact ⟨_, rfl, hR⟩
/-- the pair e over the tuple iterator t of the tuple a, i items told -/
structure EnT (e t a : Addr) (i : Nat) (h : Heap) : Prop where
  ne : e ≠ t
  src : h.IsTupleIter t a i
  enum : ∃ old, IsEnum h e t (i : Int) old
theorem EnT.moved {e t a : Addr} {i : Nat} {h h' : Heap} (z : EnT e t a i h) (k : ∀ b ∈ [e, t], ∀ o, h.get? b = some o → h'.get? b = some o) : EnT e t a i h' := by
  obtain ⟨old, q⟩ := z.enum
  exact ⟨z.ne, z.src.at (k t (by simp)), old, k e (by simp) _ q⟩
/-- enumerate(a tuple): iterator and pair are laid, all else stays -/
theorem made_enum {prog : Program} {w : World} {A : Around} {E Q : Value → Shared → Prop} {s : Shared} {a : Addr} {items : Array Value} (tp : s.heap.IsTuple a items)
    (fin : ∀ h', EnT (s.heap.objs.size + 1) s.heap.objs.size a 0 h' → (∀ b o, s.heap.get? b = some o → h'.get? b = some o) → Q (.ref (s.heap.objs.size + 1)) { s with heap := h' }) : wpAny (model prog w) A (call (.type "enumerate") [.ref a]) Q E s := by
  have B := begins_tuple a items
  refine callType_new F.called_enumerate (by decide) (F.typeCall_enumerate_1 _) (F.newCall_enumerate_1 _) (fun self => F.args_object_init_2 self _) F.entry_enumerate_new (new_enum B) ⟨tp, ?_⟩
  have size1 : ∀ o : Obj, (s.heap.push o).objs.size = s.heap.objs.size + 1 := fun o => Heap.size_push ..
  have top := fun o : Obj => Heap.get?_push_size (s.heap.push o) (o := enumO s.heap.objs.size) rfl
  show _ ∧ _
  rw [size1]
  have top' := top { cls := .type "tuple_iterator", data := .fields #[.ref a, .int 0 0] }
  rw [size1] at top'
  refine ⟨⟨_, top', rfl⟩, fin _ ⟨Nat.succ_ne_self _, ⟨_, Heap.get?_push_of_some _ (Heap.get?_push_size _ B.free), rfl, rfl⟩, .none, top'⟩ fun b o q => Heap.get?_push_of_some _ (Heap.get?_push_of_some _ q)⟩
/-- the tuple at a, each item beside its place in a new pair -/
def ItET (K : PySem.W.Frag) (a : Addr) : It where
  go i H := ∃ xs : List V, SqT K H a xs ∧ i < xs.length
  yld i H v H' := ∃ q x, H q = none ∧ v = .ref q ∧ H' = upd H q (.tup [.int (i : Nat), x]) ∧ ∀ xs, SqT K H a xs → xs[i]? = some x
  stop i H := ∃ xs : List V, SqT K H a xs ∧ xs.length = i
section
variable {P : Program} {w : World} {K : PySem.W.Frag} {elts : List Expr} {kk : Nat} {tpos : Pos} {a e t : Addr}
theorem turn_enumT (nae : a ≠ e) (nat : a ≠ t) : Turn P w K (.Tuple elts kk tpos) (ItET K a) [e, t] e (EnT e t a) where
  mem := List.mem_cons_self
  keep := fun _ _ _ z k => z.moved k
  self := fun _ _ _ _ _ z q => Exists.elim z.enum fun _ en => wpAny_pyIter_enum en q
  obj := fun i h z b hb => by
    obtain ⟨_, en⟩ := z.enum
    obtain ⟨ob, at_, _, dat⟩ := z.src
    have two : b = e ∨ b = t := by simpa using hb
    refine two.elim (fun y => ?_) fun y => ?_ <;> subst y
    · exact ⟨_, en, fun _ y => nomatch y⟩
    · exact ⟨ob, at_, fun _ y => by rw [dat] at y; cases y⟩
  done := fun X eP ew eK calm i pins s σ H E inv foot z ⟨xs, sq, len⟩ => by
    subst eP ew eK
    obtain ⟨its, vals, isT, _⟩ := inv.tuple sq
    obtain ⟨_, en⟩ := z.enum
    have sz : its.toArray.size = i := by rw [List.size_toArray, ← vals.length, len]
    have dr := Draws.tuple (prog := X.prog) (w := X.w) (A := X.A.in1) (show X.A.in1.handled = none from inv.ok.hd calm) t a nat its.toArray
    have ft := foot t (by simp)
    exact wpAny_pyNext_enum_endD dr en (by rw [sz]; exact ⟨z.src, isT⟩) fun h' same => ⟨rfl, inv.turned (t' := s.toks) same ft.1 ft.2.1 ft.2.2.2.1 ft.2.2.2.2.1 ft.2.2.2.2.2⟩
  item := fun X eP ew eK calm i pins s σ H E inv foot z ⟨xs, sq, lt⟩ => by
    subst eP ew eK
    obtain ⟨its, vals, isT, _⟩ := inv.tuple sq
    obtain ⟨old, en⟩ := z.enum
    obtain ⟨u, at_u, rel⟩ := vals.get (List.getElem?_eq_getElem lt)
    have elow : e < s.heap.objs.size := Heap.lt_size en
    have tlow : t < s.heap.objs.size := let ⟨_, y, _⟩ := z.src; Heap.lt_size y
    have dr := Draws.tuple (prog := X.prog) (w := X.w) (A := X.A.in1) (show X.A.in1.handled = none from inv.ok.hd calm) t a nat its.toArray
    refine wpAny_pyNext_enum_itemC dr en ⟨z.src, isT⟩ (by rw [List.size_toArray, ← vals.length]; exact lt) z.ne (by simp; exact ⟨z.ne, Ne.symm nae⟩) fun y h' tk drawn owned src' pair _ rest => ?_
    obtain rfl : u = y := Option.some.inj (at_u.symm.trans (by simpa using drawn))
    refine ⟨_, rfl, wpAny_letOwnedTupleGo_enum (s := { s with heap := h', toks := tk + 1 }) owned fun h'' en' but => ?_⟩
    have pair' := (but.2 _ (Nat.ne_of_gt elow)).trans pair
    have others : ∀ b ob, b ∉ [e, t] → s.heap.get? b = some ob → h''.get? b = some ob := fun b ob nb q => (but.2 b fun y => nb (y ▸ List.mem_cons_self)).trans (rest b ob (fun y => nb (y ▸ List.mem_cons_self)) (fun y => nb (by simp [y])) q)
    have laid : ObjOk X.prog X.w (upd H s.heap.objs.size (.tup [.int (i : Nat), xs[i]])) h'' s.heap.objs.size (.tup [.int (i : Nat), xs[i]]) := ⟨by show 2 ≤ sizeLine; decide, _, .cons ⟨tk, rfl⟩ (.cons rel .nil), _, pair', rfl, _, rfl⟩
    refine ⟨.ref s.heap.objs.size, _, inv.turnedNew (t' := tk + 1) others foot (Nat.le_refl _) laid, rfl, ⟨_, xs[i], inv.hok.fresh (Nat.le_refl _), rfl, rfl, fun zs sq' => ?_⟩, ⟨z.ne, src'.1.at fun o q => (but.2 t (Ne.symm z.ne)).trans q, u, ?_⟩, fun b hb => ?_⟩
    · rw [inv.tuple_inj sq' sq]
      exact List.getElem?_eq_getElem lt
    · rw [Int.natCast_succ]
      exact en'
    · have low : b < s.heap.objs.size := (List.mem_cons.mp hb).elim (fun y => y ▸ elow) fun y => List.mem_singleton.mp y ▸ tlow
      rw [upd_ne (Nat.ne_of_lt low)]
      exact (foot b hb).1
theorem walk_enumT {xs : List V} : Walk (ItET K a) xs.length (fun H => SqT K H a xs) (YPair (fun i => some (.int (i : Nat))) (fun i => xs[i]?)) where
  goes := fun _ _ lt sq => ⟨xs, sq, lt⟩
  stops := fun _ sq => ⟨xs, sq, rfl⟩
  yields := fun i _ _ _ _ sq ⟨q, x, new, ev, eH, tells⟩ => ⟨q, .int (i : Nat), x, ev, new, eH, rfl, tells xs sq⟩
end
/-- a list or a tuple, enumerated -/
def iEnumA (K : PySem.W.Frag) (ta : TA) : TI := fun σ H R => ta σ H fun vs H1 => ∃ a xs, vs = [.ref a] ∧ ((SqL K H1 a xs ∧ R (Ite K a) H1) ∨ (SqT K H1 a xs ∧ R (ItET K a) H1))
section
variable {X : Cx} {elts : List Expr} {kk : Nat} {tpos : Pos} {pins : List (Addr × Obj)} {σ : L2.St} {H : Hp} {s : Shared} {R : It → Hp → Prop} {a : Addr} {xs : List V}
/-- two new objects are nobody's -/
theorem new_foot (inv : Inv X pins σ H s) : ∀ b ∈ [s.heap.objs.size + 1, s.heap.objs.size], FpOk X pins H b := fun b hb => by
  have up : s.heap.objs.size ≤ b := (List.mem_cons.mp hb).elim (fun y => y ▸ Nat.le_succ _) fun y => Nat.le_of_eq (List.mem_singleton.mp y).symm
  exact inv.fpOk up (inv.hok.fresh up)
theorem enum_made (inv : Inv X pins σ H s) (q : (SqL X.K H a xs ∧ R (Ite X.K a) H) ∨ (SqT X.K H a xs ∧ R (ItET X.K a) H)) :
    wpAny (model X.prog X.w) X.A (call (.type "enumerate") [.ref a]) (fun v s1 => wpAny (model X.prog X.w) X.A (pyIter v) (PIE X pins σ (.Tuple elts kk tpos) R) X.xe s1) X.xe s := by
  cases q with
  | inl q =>
    obtain ⟨_, _, li, _⟩ := inv.list q.1
    exact call_enumerate_list li.isList fun h' en it _ same => wpAny_pyIter_enum en ⟨_, _, _, _, H, rfl, inv.kept (t' := s.toks) same, turn_enum a _ _, ⟨⟨.none, en⟩, it, Nat.succ_ne_self _⟩, new_foot inv, q.2⟩
  | inr q =>
    obtain ⟨_, _, tp, _⟩ := inv.tuple q.1
    have low : a < s.heap.objs.size := let ⟨_, y, _⟩ := tp; Heap.lt_size y
    exact made_enum tp fun h' z same => Exists.elim z.enum fun _ en => wpAny_pyIter_enum en ⟨_, _, _, _, H, rfl, inv.kept (t' := s.toks) same, turn_enumT (Nat.ne_of_lt (Nat.lt_succ_of_lt low)) (Nat.ne_of_lt low), z, new_foot inv, q.2⟩
theorem pi_enumA {e : Expr} {ta : TA} {p pos : Pos} (hg : Gl X "enumerate") (hm : X.mg "enumerate" = none) (ha : PA X [e] ta) (hs : starEach [e] X.env = [(false, eval e X.env)] := by rfl) :
    PI X (.Tuple elts kk tpos) (.Call (.Name "enumerate" p) [e] [] pos) (iEnumA X.K ta) where
  run pins s σ H R inv h := Call_ (ld_blt inv hg hm boot_enumerate (callWith_type1 (thn (ha.run pos pins s σ H _ inv h) fun us s1 ⟨vs, H1, inv1, rel, a, xs, ev, q⟩ => by
    subst ev
    obtain ⟨u, eu, ru⟩ := vals1 rel
    subst eu
    cases ru
    exact enum_made inv1 q) hs rfl))
end
end DL
namespace DL
open PySem PySem.Spec PyProof.Rows L2
variable [TabC]
/-! ### what is walked -/
def Far (aS : Addr) (A0 : AS) (Hb : Hp) (A : AS) : Prop := A aS ∧ ∀ b, A b → A0 b ∨ b = aS ∨ Hb b = none
def ItOk (K : PySem.W.Frag) (aS : Addr) (A0 : AS) (ds : List D) (J : It) (Hb : Hp) : Prop := ∃ (G : Hp → Prop) (Y : Nat → Hp → V → Hp → Prop), Walk J ds.length G Y ∧ (∀ H1, KpS aS Hb H1 → G H1) ∧
  ∀ (i : Nat) (H1 : Hp) (x : V) (H2 : Hp) (n : Nat) (A : AS), i < ds.length → KpS aS Hb H1 → StA K aS H1 n → Far aS A0 Hb A → Y i H1 x H2 → Gr H1 H2 ∧ ∃ d, ds[i]? = some d ∧ Rep K aS H2 A d x
def hideL (s : Ev) : List Nat → Ev
  | [] => s
  | v :: vs => (hideL s vs).set v none
def VI (X : Cx) (E : XK) (O OB hid : List Nat) (tg iter : Expr) (m : EM (List D)) : Prop := Mn m ∧ ∃ wi, PI X tg iter wi ∧ ∀ (aS : Addr) (A0 : A0T) (H0 : Hp) (σ : L2.St) (H : Hp) (s : Ev) (n : Nat) (xq : XQ) (R : It → Hp → Prop), SR X.K aS O A0 H0 σ H s n → LX X.K E aS A0 H0 xq →
  m xq s n (fun ds n' => ∀ J H' (A1 : A0T), KpS aS H H' → StA X.K aS H' n' → AV aS A1 OB σ = AV aS A0 O σ → SR X.K aS OB A1 H0 σ H' (hideL s hid) n' → ItOk X.K aS A1 ds J (bare OB σ H') → R J H') → wi σ H R
/-- .. in a statement -/
def VIs (X : Cx) (E : XK) (O : List Nat) (tg iter : Expr) (m : EM (List D)) : Prop := Mn m ∧ ∃ wi, PI X tg iter wi ∧ ∀ (aS : Addr) (A0 : A0T) (H0 : Hp) (σ : L2.St) (H : Hp) (s : Ev) (n : Nat) (xq : XQ) (R : It → Hp → Prop), SR X.K aS O A0 H0 σ H s n → LX X.K E aS A0 H0 xq →
  m xq s n (fun ds n' => ∀ J H', KpS aS H H' → StA X.K aS H' n' → ItOk X.K aS A0 ds J (bare O σ H') → R J H') → wi σ H R
theorem VIs.vi {X : Cx} {E : XK} {O : List Nat} {tg iter : Expr} {m : EM (List D)} (h : VIs X E O tg iter m) : VI X E O O [] tg iter m := by
  obtain ⟨mn, wi, p, f⟩ := h
  exact ⟨mn, wi, p, fun aS A0 H0 σ H s n xq R S L hm => f aS A0 H0 σ H s n xq R S L (mn _ _ _ _ _ (fun ds n' q J H' kp st it => q J H' A0 kp st rfl (S.step kp st) it) hm)⟩
section
variable {K : PySem.W.Frag} {aS a : Addr} {H H' H0 H1 Hb : Hp} {A : AS} {A0 : A0T} {O OB : List Nat} {σ : L2.St} {s : Ev} {n : Nat}
theorem KpS.all (k : ∀ b u, H b = some u → H' b = some u) : KpS aS H H' := fun b u e _ => .of (k b u e)
/-- what does not meet what slots own stands on the base -/
theorem SR.onBase (S : SR K aS O A0 H0 σ H s n) (h1 : KpS aS (bare O σ H) H1) (hF : Far aS A0 (bare O σ H) A) : Sub K H H1 (AV aS A0 O σ) A := by
  have nb : ∀ b, ¬ AV aS A0 O σ b → bare O σ H b = H b := fun b h => bare_not fun z => h (.inr (.inr z))
  have ne : ∀ b, ¬ AV aS A0 O σ b → b ≠ aS := fun b h z => h (.inr (.inl z))
  have nA : ∀ b u, ¬ AV aS A0 O σ b → H b = some u → ¬ A b := fun b u h q z => by
    rcases hF.2 b z with z | z | z
    · exact h (.inl z)
    · exact h (.inr (.inl z))
    · rw [nb b h, q] at z
      cases z
  have up : ∀ b u, ¬ AV aS A0 O σ b → H b = some u → Kp1 u (H1 b) := fun b u h q => h1 b u ((nb b h).trans q) (ne b h)
  refine ⟨fun b xs h q => ⟨nA _ _ h q, up _ _ h q⟩, fun b xs q => q.elim (fun q => .inl (h1 b (.tup xs) ?_ fun z => ?_)) .inr, fun b ys h q => ?_, fun b ys h q => ?_, fun b C dx ys h q => ⟨nA _ _ h q, up _ _ h q⟩, fun b u hu h q => ⟨nA _ _ h q, Kp1.xo hu (up _ _ h q)⟩⟩
  · rw [bare_not]
    · exact q
    · rintro ⟨j, hj, e⟩
      obtain ⟨d, b', e1, e2, e3, e4, e5, e6⟩ := S.ow j hj
      rw [e] at e2
      cases e2
      cases d with
      | lst ds => obtain ⟨xs, e, _⟩ := e6; rw [q] at e; cases e
      | dic ds => obtain ⟨xs, e, _⟩ := e6; rw [q] at e; cases e
      | dmx ds => obtain ⟨xs, e, _⟩ := e6; rw [q] at e; unfold MD.MixO at e; cases e
      | obj C ds => obtain ⟨dx, xs, e, _⟩ := e6; rw [q] at e; cases e
      | _ => exact e6.elim
  · obtain ⟨ys, e⟩ := S.st.lst
    rw [z, e] at q
    cases q
  all_goals
    rcases q with q | ⟨z, q⟩
    · exact ⟨nA _ _ h q, .inl (up _ _ h q)⟩
    · exact ⟨nA _ _ h q, .inr ⟨z, up _ _ h q⟩⟩
theorem SR.far (S : SR K aS O A0 H0 σ H s n) : Far aS A0 (bare O σ H) (fun b => A0 b ∨ b = aS) := ⟨.inr rfl, fun b z => z.elim .inl fun z => .inr (.inl z)⟩
theorem SR.onT (S : SR K aS O A0 H0 σ H s n) (h1 : KpS aS (bare O σ H) H1) {xs : List V} (h : TpA K H a xs) : TpA K H1 a xs := (S.onBase h1 S.far).t _ _ h
theorem it_yat {K : PySem.W.Frag} {aS : Addr} {A0 : AS} {ds : List D} {xs : List V} {Hb : Hp} {J : It} {G : Hp → Prop} (w : Walk J xs.length G (YAt xs)) (hl : xs.length = ds.length) (hG : ∀ H1, KpS aS Hb H1 → G H1)
    (hr : ∀ H1 A, KpS aS Hb H1 → Far aS A0 Hb A → RepL K aS H1 A ds xs) : ItOk K aS A0 ds J Hb := by
  refine ⟨G, YAt xs, hl ▸ w, hG, fun i H1 x H2 n A hi k st hF y => ?_⟩
  obtain ⟨e, ex⟩ := y
  subst e
  exact ⟨Gr.refl _, RepL.get' (hr _ A k hF) ex⟩
theorem SR.itL (S : SR K aS O A0 H0 σ H s n) {ds : List D} {xs : List V} (ha : ¬ AV aS A0 O σ a) (h : H a = some (.lst xs)) (r : RepL K aS H (AV aS A0 O σ) ds xs) : ItOk K aS A0 ds (Itl K a) (bare O σ H) :=
  it_yat walk_list r.length (fun H1 k => SqL.of (k a _ ((bare_not fun z => ha (.inr (.inr z))).trans h) fun z => ha (.inr (.inl z)))) fun H1 A k hF => RepL.mono (S.onBase k hF) _ _ r
theorem SR.itT (S : SR K aS O A0 H0 σ H s n) {ds : List D} {xs : List V} (h : TpA K H a xs) (r : RepL K aS H (AV aS A0 O σ) ds xs) : ItOk K aS A0 ds (Itt K a) (bare O σ H) :=
  it_yat walk_tup r.length (fun H1 k => (S.onT k h).sq) fun H1 A k hF => RepL.mono (S.onBase k hF) _ _ r
end
def signs (x : Str) : List D := x.cps.toList.map fun c => .str ⟨#[c]⟩
def dIter : D → Option (List D)
  | .lst xs => some xs
  | .tup xs => some xs
  | .str x => some (signs x)
  | _ => none
def eIter (m : EM D) : EM (List D) := fun xq s n Q => m xq s n fun d n' => ∃ ds, dIter d = some ds ∧ Q ds n'
section
variable {X : Cx} {E : XK} {O OB OL : List Nat} {e tg : Expr} {m : EM D} {pos : Pos}
def IterV (K : PySem.W.Frag) (x : V) (H : Hp) (R : It → Hp → Prop) : Prop := (∃ a xs, x = .ref a ∧ H a = some (.lst xs) ∧ R (Itl K a) H) ∨ (∃ a xs, x = .ref a ∧ TpA K H a xs ∧ R (Itt K a) H) ∨ ∃ z, x = .str z ∧ R (Its z) H
theorem pi_dyn {te : TE} (he : PE X e te) : PI X tg e (fun σ H R => te σ H fun x H1 => IterV X.K x H1 R) := by
  refine ⟨fun pins s σ H R I h => thn (he.run pins s σ H _ I h) fun v s1 ⟨x, H1, I1, r1, q1⟩ => ?_⟩
  rcases q1 with ⟨a, xs, ex, hq, q⟩ | ⟨a, xs, ex, hq, q⟩ | ⟨z, ex, q⟩
  · subst ex
    cases r1
    obtain ⟨its, rv, p, hz⟩ := I1.list (SqL.of hq)
    exact wpAny_pyIter_list p.isList (pi_one (tk := s1.toks) I1 _ (turn_list a _) ⟨_, Heap.get?_push_size _ rfl, rfl, rfl⟩ q)
  · subst ex
    cases r1
    obtain ⟨its, rv, p, hz⟩ := I1.tuple hq.sq
    exact wpAny_pyIter_tuple (show s1.heap.IsTuple a its.toArray from p) (pi_one (tk := s1.toks) I1 _ (turn_tuple a _) ⟨_, Heap.get?_push_size _ rfl, rfl, rfl⟩ q)
  · subst ex
    obtain ⟨t, rfl⟩ := r1
    cases ha : z.cps.all (· < 128)
    · exact wpAny_pyIter_wide ha (pi_one (tk := s1.toks) I1 _ (turn_str _ z t _ (.inr rfl)) ⟨_, Heap.get?_push_size _ rfl, rfl, rfl⟩ q)
    · exact wpAny_pyIter_ascii ha (pi_one (tk := s1.toks) I1 _ (turn_str _ z t _ (.inl rfl)) ⟨_, Heap.get?_push_size _ rfl, rfl, rfl⟩ q)
theorem it_str {K : PySem.W.Frag} {aS : Addr} {A0 : AS} {z : Str} {Hb : Hp} : ItOk K aS A0 (signs z) (Its z) Hb := by
  have hl : (signs z).length = z.cps.size := by simp [signs]
  refine ⟨fun _ => True, _, hl ▸ walk_str, fun _ _ => trivial, fun i H1 x H2 n A hi k st hF y => ?_⟩
  obtain ⟨e, c, hc, ex⟩ := y
  subst e ex
  refine ⟨Gr.refl _, .str ⟨#[c]⟩, ?_, rep_str⟩
  unfold signs
  rw [List.getElem?_map, Array.getElem?_toList, hc]
  rfl
theorem mn_iter (h : Mn m) : Mn (eIter m) := fun xq s n Q Q' hq w => h _ _ _ _ _ (fun d n' ⟨ds, e, q⟩ => ⟨ds, e, hq _ _ q⟩) w
theorem vi_seq (h : VE X E O e m) : VIs X E O tg e (eIter m) := by
  obtain ⟨mn, t, p, f⟩ := h
  refine ⟨mn_iter mn, _, pi_dyn p, fun aS A0 H0 σ H s n xq R S L hm => f aS A0 H0 σ H s n xq _ S L (mn _ _ _ _ _ (fun d n' q v H' kp st r => ?_) hm)⟩
  obtain ⟨ds, e, q⟩ := q
  have S' := S.step kp st
  have q := fun J => q J H' kp st
  unfold dIter at e
  split at e
  · cases e
    rw [Rep] at r
    obtain ⟨a, xs, ev, ha, hq, rl⟩ := r
    exact .inl ⟨a, xs, ev, hq, q _ (S'.itL ha hq rl)⟩
  · cases e
    rw [Rep] at r
    obtain ⟨a, xs, ev, hq, rl⟩ := r
    exact .inr (.inl ⟨a, xs, ev, hq, q _ (S'.itT hq rl)⟩)
  · cases e
    rw [Rep] at r
    exact .inr (.inr ⟨_, r, q _ it_str⟩)
  · cases e
/-- over a list that a slot owns: it is hidden meanwhile -/
theorem vi_own {x : Str} {i : Nat} (hi : i ∈ O) (hN : X.N[i]? = some x) (hv : Vis X.env.scope x) (hd : (x == ("__debug__" : Str)) = false := by decide) (hcd : (x == ("__classdict__" : Str)) = false := by decide) :
    VI X E O (O.filter (· != i)) [i] tg (.Name x pos) (fun xq s n Q => ∃ ds, s[i]? = some (some (.lst ds)) ∧ Q ds n) := by
  refine ⟨fun xq s n Q Q' hq ⟨ds, e, q⟩ => ⟨ds, e, hq _ _ q⟩, _, pi_dyn (pe_var hN hv hd hcd), fun aS A0 H0 σ H s n xq R S L hm => ?_⟩
  obtain ⟨ds, e, q⟩ := hm
  obtain ⟨d, a, e1, e2, e3, e4, e5, e6⟩ := S.ow i hi
  rw [e] at e1
  cases e1
  obtain ⟨xs, ha, rl⟩ := e6
  have mem : ∀ j, j ∈ O.filter (· != i) ↔ j ∈ O ∧ j ≠ i := fun j => by simp [List.mem_filter]
  have eA : AV aS (⟨fun b => A0 b ∨ b = a, A0.z⟩ : A0T) (O.filter (· != i)) σ = AV aS A0 O σ := by
    funext b
    refine propext ⟨fun z => ?_, fun z => ?_⟩
    · rcases z with (z | z) | z | ⟨j, hj, ej⟩
      · exact .inl z
      · exact .inr (.inr ⟨i, hi, z ▸ e2⟩)
      · exact .inr (.inl z)
      · exact .inr (.inr ⟨j, ((mem j).mp hj).1, ej⟩)
    · rcases z with z | z | ⟨j, hj, ej⟩
      · exact .inl (.inl z)
      · exact .inr (.inl z)
      · by_cases hji : j = i
        · subst hji
          rw [e2] at ej
          cases ej
          exact .inl (.inr rfl)
        · exact .inr (.inr ⟨j, (mem j).mpr ⟨hj, hji⟩, ej⟩)
  have nin : i ∉ O.filter (· != i) := fun z => ((mem i).mp z).2 rfl
  have S1 : SR X.K aS (O.filter (· != i)) ⟨fun b => A0 b ∨ b = a, A0.z⟩ H0 σ H (s.set i none) n := by
    refine ⟨by rw [List.length_set]; exact S.len, fun j d' ej hj => ?_, fun j hj => ?_, fun j l b hj hl => S.ds j l b ((mem j).mp hj).1 ((mem l).mp hl).1, S.fr, S.st, fun b hb => ?_, fun z => S.pn ((mem 0).mp z).1⟩
    · rw [eA]
      by_cases hji : j = i
      · subst hji
        have hl : j < s.length := (List.getElem?_eq_some_iff.mp e).1
        rw [List.getElem?_set_self hl] at ej
        cases ej
      · rw [set_other hji] at ej
        exact S.sh j d' ej fun z => hj ((mem j).mpr ⟨z, hji⟩)
    · rw [eA]
      have hj' := (mem j).mp hj
      rw [set_other hj'.2]
      obtain ⟨d', b, q1, q2, q3, q4, q5, q6⟩ := S.ow j hj'.1
      exact ⟨d', b, q1, q2, q3, fun z => z.elim q4 fun z => hj'.2 (S.ds j i a hj'.1 hi (z ▸ q2) e2), q5, q6⟩
    · rcases hb with hb | hb
      · exact S.av b hb
      · exact ⟨_, hb ▸ ha⟩
  refine ⟨.ref a, e2, .inl ⟨a, xs, rfl, ha, q _ H ⟨fun b => A0 b ∨ b = a, A0.z⟩ KpS.refl S.st eA S1 ?_⟩⟩
  have hb : bare (O.filter (· != i)) σ H a = some (.lst xs) := by
    rw [bare_not]
    · exact ha
    · rintro ⟨j, hj, ej⟩
      exact ((mem j).mp hj).2 (S.ds j i a ((mem j).mp hj).1 hi ej e2)
  refine it_yat walk_list rl.length (fun H1 k => SqL.of (k a _ hb e5)) fun H1 A k hF => RepL.mono (S1.onBase k hF) _ _ ?_
  rw [eA]
  exact rl
/-! ranges -/
def eRange1 (m : EM D) : EM (List D) := fun xq s n Q => m xq s n fun d n' => ∃ j : Int, d = .int j ∧ j ≤ LIM ∧ -(2 ^ 62) ≤ j ∧ Q ((List.range j.toNat).map fun i => .int (i : Nat)) n'
theorem it_range {K : PySem.W.Frag} {aS : Addr} {A0 : AS} {lo : Int} {k : Nat} {Hb : Hp} {f : Nat → D} (hf : ∀ i, f i = .int (lo + (i : Nat))) : ItOk K aS A0 ((List.range k).map f) (Itr lo k) Hb := by
  have hl : ((List.range k).map f).length = k := by simp
  refine ⟨fun _ => True, _, (by rw [hl]; exact walk_range (lo := lo) (n := k)), fun _ _ => trivial, fun i H1 x H2 n A hi kp st hF y => ?_⟩
  obtain ⟨e, ex⟩ := y
  subst e ex
  refine ⟨Gr.refl _, .int (lo + (i : Nat)), ?_, rep_int⟩
  rw [List.getElem?_map, List.getElem?_range (by simpa using hi)]
  exact congrArg some (hf i)
theorem vi_range1 {a : Expr} {p : Pos} (hg : Gl X "range") (hm : X.mg "range" = none) (h : VB X E O a m) (hs : starEach [a] X.env = [(false, eval a X.env)] := by rfl) (hs' : starEach [a] X.env = (false, eval a X.env) :: starEach [] X.env := by rfl) : VIs X E O tg (.Call (.Name "range" p) [a] [] pos) (eRange1 m) := by
  obtain ⟨mn, t, pe, f⟩ := h
  refine ⟨fun xq s n Q Q' hq w => mn _ _ _ _ _ (fun d n' ⟨j, e1, e2, e3, q⟩ => ⟨j, e1, e2, e3, hq _ _ q⟩) w, _, pi_range1 hg hm (pa_cons pe pa_nil hs') hs, fun aS A0 H0 σ H s n xq R S L hm => f aS A0 H0 σ H s n xq _ S L (mn _ _ _ _ _ (fun d n' q v H' kp st r => ?_) hm)⟩
  obtain ⟨j, e1, e2, e3, q⟩ := q
  subst e1
  refine ⟨j, by rw [repB_int r], e3, by unfold LIM at e2; omega, q _ H' kp st (it_range fun i => by rw [Int.zero_add])⟩
/-! enumerate, zip -/
def pairsD : Nat → List D → List D
  | _, [] => []
  | k, d :: ds => .tup [.int (k : Nat), d] :: pairsD (k + 1) ds
theorem pairsD_length : ∀ (k : Nat) (ds : List D), (pairsD k ds).length = ds.length
  | _, [] => rfl
  | k, d :: ds => by rw [pairsD, List.length_cons, List.length_cons, pairsD_length (k + 1) ds]
theorem pairsD_get : ∀ (k i : Nat) (ds : List D) (d : D), ds[i]? = some d → (pairsD k ds)[i]? = some (.tup [.int ((k + i : Nat) : Int), d])
  | _, _, [], _, h => by simp at h
  | k, 0, d :: ds, d', h => by
    simp at h
    subst h
    rfl
  | k, i + 1, d :: ds, d', h => by
    rw [pairsD, List.getElem?_cons_succ, pairsD_get (k + 1) i ds d' (by simpa using h)]
    have e : k + 1 + i = k + (i + 1) := by omega
    rw [e]
theorem it_ypair {K : PySem.W.Frag} {aS : Addr} {A0 : AS} {ds : List D} {Hb : Hp} {J : It} {k : Nat} {G : Hp → Prop} {f g : Nat → Option V} (w : Walk J k G (YPair f g)) (hl : k = ds.length) (hG : ∀ H1, KpS aS Hb H1 → G H1)
    (hr : ∀ i H1 A x y, i < ds.length → KpS aS Hb H1 → Far aS A0 Hb A → f i = some x → g i = some y → ∃ d1 d2, ds[i]? = some (.tup [d1, d2]) ∧ Rep K aS H1 A d1 x ∧ Rep K aS H1 A d2 y) : ItOk K aS A0 ds J Hb := by
  subst hl
  refine ⟨G, _, w, hG, fun i H1 v H2 n A hi kp st hF y => ?_⟩
  obtain ⟨T, x, y, ev, hT, e2, h1, h2⟩ := y
  subst ev e2
  obtain ⟨d1, d2, e, r1, r2⟩ := hr i H1 A x y hi kp hF h1 h2
  refine ⟨Gr.upd hT, _, e, rep_tup (.inl upd_same) ?_⟩
  exact RepL.kp (KpS.upd hT) st hF.1 (RepL.cons r1 (RepL.cons r2 RepL.nil))
def dSeq : D → Option (List D)
  | .lst xs => some xs
  | .tup xs => some xs
  | _ => none
def eEnum (m : EM D) : EM (List D) := fun xq s n Q => m xq s n fun d n' => ∃ ds, dSeq d = some ds ∧ Q (pairsD 0 ds) n'
theorem vi_enum {a : Expr} {p tpos : Pos} {elts : List Expr} {kk : Nat} (hg : Gl X "enumerate") (hm : X.mg "enumerate" = none) (h : VE X E O a m) (hs : starEach [a] X.env = [(false, eval a X.env)] := by rfl) (hs' : starEach [a] X.env = (false, eval a X.env) :: starEach [] X.env := by rfl) :
    VIs X E O (.Tuple elts kk tpos) (.Call (.Name "enumerate" p) [a] [] pos) (eEnum m) := by
  obtain ⟨mn, t, pe, f⟩ := h
  refine ⟨fun xq s n Q Q' hq w => mn _ _ _ _ _ (fun d n' ⟨j, e1, q⟩ => ⟨j, e1, hq _ _ q⟩) w, _, pi_enumA hg hm (pa_cons pe pa_nil hs') hs, fun aS A0 H0 σ H s n xq R S L hm => f aS A0 H0 σ H s n xq _ S L (mn _ _ _ _ _ (fun d n' q v H' kp st r => ?_) hm)⟩
  obtain ⟨ds, e, q⟩ := q
  have S' := S.step kp st
  have q := fun J => q J H' kp st
  have fin : ∀ {xs : List V}, RepL X.K aS H' (AV aS A0 O σ) ds xs → ∀ i H1 A x y, i < (pairsD 0 ds).length → KpS aS (bare O σ H') H1 → Far aS A0 (bare O σ H') A → (some (V.int (i : Nat)) : Option V) = some x → xs[i]? = some y → ∃ d1 d2, (pairsD 0 ds)[i]? = some (.tup [d1, d2]) ∧ Rep X.K aS H1 A d1 x ∧ Rep X.K aS H1 A d2 y := by
    intro xs rl i H1 A x y hi k1 st1 hx hy
    cases hx
    obtain ⟨d2, e2, r2⟩ := RepL.get' (RepL.mono (S'.onBase k1 st1) _ _ rl) hy
    refine ⟨.int (i : Nat), d2, ?_, rep_int, r2⟩
    rw [pairsD_get 0 i ds d2 e2, Nat.zero_add]
  unfold dSeq at e
  split at e
  · cases e
    rw [Rep] at r
    obtain ⟨b, xs, ev, ha, hq, rl⟩ := r
    refine ⟨b, xs, by rw [ev], .inl ⟨SqL.of hq, q _ (it_ypair walk_enum (by rw [pairsD_length, rl.length]) (fun H1 k => SqL.of (k b _ ((bare_not fun z => ha (.inr (.inr z))).trans hq) fun z => ha (.inr (.inl z)))) (fin rl))⟩⟩
  · cases e
    rw [Rep] at r
    obtain ⟨b, xs, ev, hq, rl⟩ := r
    refine ⟨b, xs, by rw [ev], .inr ⟨hq.sq, q _ (it_ypair walk_enumT (by rw [pairsD_length, rl.length]) (fun H1 k => (S'.onT k hq).sq) (fin rl))⟩⟩
  · cases e
def zipD : List D → List D → List D
  | x :: xs, y :: ys => .tup [x, y] :: zipD xs ys
  | _, _ => []
theorem zipD_length : ∀ xs ys : List D, (zipD xs ys).length = min xs.length ys.length
  | [], _ => by simp [zipD]
  | _ :: _, [] => by simp [zipD]
  | x :: xs, y :: ys => by rw [zipD, List.length_cons, zipD_length xs ys, List.length_cons, List.length_cons]; omega
theorem zipD_get : ∀ (i : Nat) (xs ys : List D) (x y : D), xs[i]? = some x → ys[i]? = some y → (zipD xs ys)[i]? = some (.tup [x, y])
  | _, [], _, _, _, h, _ => by simp at h
  | _, _ :: _, [], _, _, _, h => by simp at h
  | 0, x :: xs, y :: ys, _, _, h, h2 => by
    simp at h h2
    subst h h2
    rfl
  | i + 1, x :: xs, y :: ys, x', y', h, h2 => by
    rw [zipD, List.getElem?_cons_succ]
    exact zipD_get i xs ys x' y' (by simpa using h) (by simpa using h2)
theorem walk_zipT {K : PySem.W.Frag} {a b : Addr} {xs ys : List V} {n : Nat} (hn : n = min xs.length ys.length) : Walk (RZ.ItzT K a b) n (fun H => SqT K H a xs ∧ SqT K H b ys) (YPair (fun i => xs[i]?) (fun i => ys[i]?)) where
  goes := fun i H hi ⟨qa, qb⟩ => ⟨xs, ys, xs[i]'(by omega), ys[i]'(by omega), qa, qb, List.getElem?_eq_getElem _, List.getElem?_eq_getElem _⟩
  stops := fun H ⟨qa, qb⟩ => ⟨xs, ys, qa, qb, by omega⟩
  yields := fun i H v H' _ ⟨qa, qb⟩ ⟨T, x, y, e1, e2, e3, ea, eb⟩ => ⟨T, x, y, e1, e2, e3, ea xs qa, eb ys qb⟩
/-- two lists, or two tuples -/
def dZip : D → D → Option (List D)
  | .lst xs, .lst ys => some (zipD xs ys)
  | .tup xs, .tup ys => some (zipD xs ys)
  | _, _ => none
def eZip (a b : EM D) : EM (List D) := fun xq s n Q => a xq s n fun x n1 => b xq s n1 fun y n2 => ∃ ds, dZip x y = some ds ∧ Q ds n2
theorem vi_zip {a b : Expr} {ma mb : EM D} {p tpos : Pos} {elts : List Expr} {kk : Nat} (hg : Gl X "zip") (hm : X.mg "zip" = none) (ha : VE X E O a ma) (hb : VE X E O b mb)
    (hs : starEach [a, b] X.env = (false, eval a X.env) :: starEach [b] X.env := by rfl) (hpl : (backTo pos (starEach [b] X.env)).any (·.1) = false := by rfl) (hs'' : starEach [b] X.env = (false, eval b X.env) :: starEach [] X.env := by rfl) :
    VIs X E O (.Tuple elts kk tpos) (.Call (.Name "zip" p) [a, b] [] pos) (eZip ma mb) := by
  obtain ⟨mna, ta, pa, fa⟩ := ha
  obtain ⟨mnb, tb, pb, fb⟩ := hb
  refine ⟨fun xq s n Q Q' hq w => mna _ _ _ _ _ (fun d n' w => mnb _ _ _ _ _ (fun d' n'' ⟨i, e1, q⟩ => ⟨i, e1, hq _ _ q⟩) w) w, _, RZ.pi_zipA hg hm (pa_cons pa (pa_cons pb pa_nil hs'') hs) hs hpl, fun aS A0 H0 σ H s n xq R S L hm => ?_⟩
  refine fa aS A0 H0 σ H s n xq _ S L (mna _ _ _ _ _ (fun d1 n1 q v1 H1 k1 st1 r1 => ?_) hm)
  refine fb aS A0 H0 σ H1 s n1 xq _ (S.step k1 st1) L (mnb _ _ _ _ _ (fun d2 n2 q2 v2 H2 k2 st2 r2 => ?_) q)
  obtain ⟨ds, e, q3⟩ := q2
  have S' := S.step (k1.trans k2) st2
  have q3 := fun J => q3 J H2 (k1.trans k2) st2
  have r1 := r1.kp k2 st1 AV.st
  have fin : ∀ {xs ys : List V} {us ws : List D}, RepL X.K aS H2 (AV aS A0 O σ) us xs → RepL X.K aS H2 (AV aS A0 O σ) ws ys → ∀ i H1 A x y, i < (zipD us ws).length → KpS aS (bare O σ H2) H1 → Far aS A0 (bare O σ H2) A → xs[i]? = some x → ys[i]? = some y → ∃ d1 d2, (zipD us ws)[i]? = some (.tup [d1, d2]) ∧ Rep X.K aS H1 A d1 x ∧ Rep X.K aS H1 A d2 y := by
    intro xs ys us ws rl rl2 i H1 A x y hi k1 st1 hx hy
    obtain ⟨d1, e1, r1⟩ := RepL.get' (RepL.mono (S'.onBase k1 st1) _ _ rl) hx
    obtain ⟨d2, e2, r2⟩ := RepL.get' (RepL.mono (S'.onBase k1 st1) _ _ rl2) hy
    exact ⟨d1, d2, zipD_get i us ws d1 d2 e1 e2, r1, r2⟩
  unfold dZip at e
  split at e
  · cases e
    rw [Rep] at r1 r2
    obtain ⟨b1, xs, ev, ha, hq, rl⟩ := r1
    obtain ⟨b2, ys, ev2, ha2, hq2, rl2⟩ := r2
    subst ev ev2
    refine ⟨b1, b2, xs, ys, rfl, .inl ⟨SqL.of hq, SqL.of hq2, q3 _ (it_ypair (walk_zip rfl) (by rw [zipD_length, rl.length, rl2.length]) (fun H1 k => ⟨SqL.of (k b1 _ ((bare_not fun z => ha (.inr (.inr z))).trans hq) fun z => ha (.inr (.inl z))), SqL.of (k b2 _ ((bare_not fun z => ha2 (.inr (.inr z))).trans hq2) fun z => ha2 (.inr (.inl z)))⟩) (fin rl rl2))⟩⟩
  · cases e
    rw [Rep] at r1 r2
    obtain ⟨b1, xs, ev, hq, rl⟩ := r1
    obtain ⟨b2, ys, ev2, hq2, rl2⟩ := r2
    subst ev ev2
    refine ⟨b1, b2, xs, ys, rfl, .inr ⟨hq.sq, hq2.sq, q3 _ (it_ypair (walk_zipT rfl) (by rw [zipD_length, rl.length, rl2.length]) (fun H1 k => ⟨(S'.onT k hq).sq, (S'.onT k hq2).sq⟩) (fin rl rl2))⟩⟩
  · cases e
end
end DL
namespace DL
open PySem PySem.Spec PyProof.Rows L2
variable [TabC]
/-! ### targets -/
abbrev DG := D → Ev → (Ev → Prop) → Prop
abbrev DGs := List D → Ev → (Ev → Prop) → Prop
/-- a target stores into the slots vs alone -/
def VG (X : Cx) (O vs : List Nat) (tg : Expr) (g : DG) : Prop := (∀ d s Q Q', (∀ s', Q s' → Q' s') → g d s Q → g d s Q') ∧ ∃ gt, PG X tg gt ∧ ∀ (aS : Addr) (A0 : A0T) (H0 : Hp) (σ : L2.St) (H : Hp) (s : Ev) (n : Nat) (d : D) (v : V) (Q : Ev → Prop) (QH : L2.St → Hp → Prop), SR X.K aS O A0 H0 σ H s n → Rep X.K aS H (AV aS A0 O σ) d v → g d s Q →
  (∀ σ' s', SR X.K aS O A0 H0 σ' H s' n → σ'.length = σ.length → (∀ j, j ∉ vs → σ'[j]? = σ[j]?) → AV aS A0 O σ' = AV aS A0 O σ → Q s' → QH σ' H) → gt v σ H QH
def VGs (X : Cx) (O vs : List Nat) (tg : List Expr) (g : DGs) : Prop := (∀ d s Q Q', (∀ s', Q s' → Q' s') → g d s Q → g d s Q') ∧ ∃ gt, PGs X tg gt ∧ ∀ (aS : Addr) (A0 : A0T) (H0 : Hp) (σ : L2.St) (H : Hp) (s : Ev) (n : Nat) (d : List D) (v : List V) (Q : Ev → Prop) (QH : L2.St → Hp → Prop), SR X.K aS O A0 H0 σ H s n → RepL X.K aS H (AV aS A0 O σ) d v → g d s Q →
  (∀ σ' s', SR X.K aS O A0 H0 σ' H s' n → σ'.length = σ.length → (∀ j, j ∉ vs → σ'[j]? = σ[j]?) → AV aS A0 O σ' = AV aS A0 O σ → Q s' → QH σ' H) → gt v σ H QH
def gNm (i : Nat) : DG := fun d s Q => Q (s.set i (some d))
def gTp (g : DGs) : DG := fun d s Q => ∃ ds, d = .tup ds ∧ g ds s Q
def gsNil : DGs := fun ds s Q => ds = [] ∧ Q s
def gsCons (g : DG) (r : DGs) : DGs := fun ds s Q => ∃ d dr, ds = d :: dr ∧ g d s fun s' => r dr s' Q
section
variable {X : Cx} {E : XK} {O O' OB OL vs ws hid : List Nat} {e tg : Expr} {es : List Expr} {m : EM D} {mi : EM (List D)} {mt : EM Bool} {mb : SM} {g : DG} {gs : DGs} {pos : Pos} {i : Nat}
theorem vg_name {x : Str} (hi : i ∉ O) (hnd : X.N.Nodup) (hN : X.N[i]? = some x) (hx : Loc X.env.scope x) (hf : X.fn x = true ∨ X.env.scope.names.lookup x = some .local := by first | exact .inl rfl | exact .inr rfl | assumption) : VG X O [i] (.Name x pos) (gNm i) := by
  refine ⟨fun _ _ _ _ hq h => hq _ h, _, pg_name hnd hN hx hf, fun aS A0 H0 σ H s n d v Q QH S r h k => ?_⟩
  exact k _ _ (S.set hi r) (by rw [List.length_set]) (fun j hj => set_other fun z => hj (by simp [z])) (AV.set hi) h
theorem vgs_nil : VGs X O [] [] gsNil := ⟨fun _ _ _ _ hq h => ⟨h.1, hq _ h.2⟩, _, pgs_nil, fun aS A0 H0 σ H s n d v Q QH S r h k => by
  obtain ⟨e, h⟩ := h
  subst e
  rw [RepL] at r
  exact ⟨r, k σ s S rfl (fun _ _ => rfl) rfl h⟩⟩
theorem vgs_cons (h1 : VG X O vs e g) (h2 : VGs X O ws es gs) (hs : (assignEach (e :: es) X.env).map (·.2) = assign e X.env :: (assignEach es X.env).map (·.2) := by rfl) : VGs X O (vs ++ ws) (e :: es) (gsCons g gs) := by
  obtain ⟨n1, g1, p1, f1⟩ := h1
  obtain ⟨n2, g2, p2, f2⟩ := h2
  refine ⟨fun _ _ _ _ hq ⟨d, dr, e, h⟩ => ⟨d, dr, e, n1 _ _ _ _ (fun _ h => n2 _ _ _ _ hq h) h⟩, _, pgs_cons p1 p2 hs, fun aS A0 H0 σ H s n d v Q QH S r h k => ?_⟩
  obtain ⟨d1, dr, ed, h⟩ := h
  subst ed
  rw [RepL] at r
  obtain ⟨v1, vr, ev, r1, r2⟩ := r
  refine ⟨v1, vr, ev, f1 aS A0 H0 σ H s n d1 v1 _ _ S r1 h fun σ1 s1 S1 l1 o1 a1 q1 => ?_⟩
  refine f2 aS A0 H0 σ1 H s1 n dr vr Q QH S1 (by rw [a1]; exact r2) q1 fun σ2 s2 S2 l2 o2 a2 q2 => ?_
  refine k σ2 s2 S2 (l2.trans l1) (fun j hj => ?_) (a2.trans a1) q2
  rw [o2 j fun z => hj (List.mem_append_right _ z), o1 j fun z => hj (List.mem_append_left _ z)]
theorem vg_tup {k : Nat} {n : Nat} (hc : X.calm = true) (h : VGs X O vs es gs) (hl : ∀ ds s Q, gs ds s Q → ds.length = n) (hn : (assignEach es X.env).length = n := by rfl) (hst : (assignEach es X.env).findIdx? (·.1) = none := by rfl) : VG X O vs (.Tuple es k pos) (gTp gs) := by
  obtain ⟨n1, g1, p1, f1⟩ := h
  refine ⟨fun _ _ _ _ hq ⟨ds, e, h⟩ => ⟨ds, e, n1 _ _ _ _ hq h⟩, _, pg_tup hc p1 hn hst, fun aS A0 H0 σ H s n d v Q QH S r h k => ?_⟩
  obtain ⟨ds, ed, h⟩ := h
  subst ed
  rw [Rep] at r
  obtain ⟨a, xs, ev, hq, rl⟩ := r
  exact ⟨a, xs, ev, hq.sq, by rw [rl.length]; exact hl _ _ _ h, f1 aS A0 H0 σ H s n ds xs Q QH S rl h k⟩
/-! ### for -/
def sForL (g : DG) (mb : SM) (xq : XQ) (de : DE) : List D → Ev → Nat → Prop
  | [], s, n => de.nx s n
  | d :: ds, s, n => g d s fun s1 => mb xq { de with nx := fun s2 n2 => sForL g mb xq de ds s2 n2, ct := fun s2 n2 => sForL g mb xq de ds s2 n2, bk := de.nx } s1 n
def sFor (mi : EM (List D)) (g : DG) (mb : SM) : SM := fun xq de s n => mi xq s n fun ds n1 => sForL g mb xq de ds s n1
theorem LX.base {K : PySem.W.Frag} {aS : Addr} {A0 : AS} {H0 Hb : Hp} {xq : XQ} (L : LX K E aS A0 H0 xq) (h : KpS aS H0 Hb) : LX K E aS A0 Hb xq := fun C fs n d H' k st r q => by
  refine L C fs n d H' (h.trans k) st ?_ q
  cases d with
  | none => exact r
  | some a =>
    obtain ⟨ys, e1, e2, e3⟩ := r
    refine ⟨ys, Option.eq_none_iff_forall_ne_some.mpr fun u z => ?_, e2, e3⟩
    obtain ⟨xs, es⟩ := st.lst
    have na : a ≠ aS := fun z => by rw [z, es] at e2; cases e2
    exact KpS.gone h e1 z na
theorem LK.base {K : PySem.W.Frag} {aS : Addr} {A0 : A0T} {H0 Hb : Hp} {de : DE} {De : Ends} (k : LK K aS O OL A0 H0 de De) (h : KpS aS H0 Hb) : LK K aS O OL A0 Hb de De :=
  ⟨fun σ H s n S q => k.nx σ H s n (S.back h) q, fun v H d n kp st r q => k.rt v H d n (h.trans kp) st r q, fun σ H s n S q => k.bk σ H s n (S.back h) q, fun σ H s n S q => k.ct σ H s n (S.back h) q⟩
theorem drop_get {α : Type} {l : List α} {i : Nat} {x : α} (h : l[i]? = some x) : l.drop i = x :: l.drop (i + 1) := by
  obtain ⟨h1, h2⟩ := List.getElem?_eq_some_iff.mp h
  exact h2 ▸ List.drop_eq_getElem_cons h1
theorem vs_for {iter : Expr} {body : List Stmt} (hp : PassesOwn (model X.prog X.w) X.A X.env X.xe) (hc : X.calm = true) (hi : VIs X E O tg iter mi) (hg : VG X O vs tg g) (hb : VSs X E O O O body mb)
    (hs : ∀ x, foldedSetIterable iter X.env x = pure x := by intro _; rfl) : VS X E O O OL (.For tg iter body [] pos) (sFor mi g mb) := by
  obtain ⟨mn, wi, pi, fi⟩ := hi
  obtain ⟨_, gt, pg, fg⟩ := hg
  obtain ⟨tb, pb, fb⟩ := hb
  refine ⟨_, ps_for hp hc pi pg pb hs, fun aS A0 H0 σ H s n xq de De S L k h => ?_⟩
  refine fi aS A0 H0 σ H s n xq _ S L (mn _ _ _ _ _ (fun ds n1 q J H1 kp st it => ?_) h)
  have S1 := S.step kp st
  have le := S1.le
  have hF : ∀ {σ' H' s' n'}, SR X.K aS O A0 (bare O σ H1) σ' H' s' n' → Far aS A0 (bare O σ H1) (AV aS A0 O σ') := fun {σ' H' s' n'} S' => ⟨AV.st, fun b z => by
    rcases z with z | z | ⟨j, hj, e⟩
    · exact .inl z
    · exact .inr (.inl z)
    · obtain ⟨d, b', e1, e2, e3, _⟩ := S'.ow j hj
      rw [e] at e2
      cases e2
      exact .inr (.inr e3)⟩
  obtain ⟨G, Y, w, hG, hY⟩ := it
  refine for_it w (fun i σ' H' => ∃ s' n', SR X.K aS O A0 (bare O σ H1) σ' H' s' n' ∧ sForL g mb xq de (ds.drop i) s' n') ⟨s, n1, S1.base, q⟩ (fun i σ' H' _ z => ?_) (fun i x σ' H' H2 hi z y => ?_) (fun σ' H' z => ?_)
  · obtain ⟨s', n', S', _⟩ := z
    exact hG H' S'.fr
  · obtain ⟨s', n', S', q'⟩ := z
    obtain ⟨k2, d, ed, rd⟩ := hY i H' x H2 n' _ hi S'.fr S'.st (hF S') y
    rw [drop_get ed] at q'
    have S2 := S'.step (KpS.all k2.1) (S'.st.kp k2)
    refine fg aS A0 _ σ' H2 s' n' d x _ _ S2 rd q' fun σ3 s3 S3 _ _ a3 q3 => ?_
    exact fb aS A0 _ σ3 H2 s3 n' xq { de with nx := fun s2 n2 => sForL g mb xq de (ds.drop (i + 1)) s2 n2, ct := fun s2 n2 => sForL g mb xq de (ds.drop (i + 1)) s2 n2, bk := de.nx } _ S3 (L.base le) ⟨fun σ4 H4 s4 n4 S4 q4 => ⟨s4, n4, S4, q4⟩, (k.base le).rt, fun σ4 H4 s4 n4 S4 q4 => k.nx σ4 H4 s4 n4 (S4.back le) q4, fun σ4 H4 s4 n4 S4 q4 => ⟨s4, n4, S4, q4⟩⟩ q3
  · obtain ⟨s', n', S', q'⟩ := z
    rw [List.drop_length] at q'
    exact k.nx σ' H' s' n' (S'.back le) q'
/-! ### while -/
def sWhileN (mt : EM Bool) (mb : SM) (xq : XQ) (de : DE) : Nat → Ev → Nat → Prop
  | 0, _, _ => False
  | k + 1, s, n => mt xq s n fun c n1 => if c = true then mb xq { de with nx := fun s2 n2 => sWhileN mt mb xq de k s2 n2, ct := fun s2 n2 => sWhileN mt mb xq de k s2 n2, bk := de.nx } s n1 else de.nx s n1
def sWhile (mt : EM Bool) (mb : SM) : SM := fun xq de s n => ∃ k, sWhileN mt mb xq de k s n
theorem vs_while {c : Expr} {body : List Stmt} (hp : PassesOwn (model X.prog X.w) X.A X.env X.xe) (hc : VT X E O c mt) (hb : VSs X E O O O body mb) : VS X E O O OL (.While c body [] pos) (sWhile mt mb) := by
  obtain ⟨mn, tc, pc, fc⟩ := hc
  obtain ⟨tb, pb, fb⟩ := hb
  refine ⟨_, ps_while hp pc pb, fun aS A0 H0 σ H s n xq de De S L k h => ?_⟩
  obtain ⟨j, h⟩ := h
  refine ⟨fun j σ' H' => ∃ s' n', SR X.K aS O A0 H0 σ' H' s' n' ∧ sWhileN mt mb xq de j s' n', ⟨j, s, n, S, h⟩, fun j σ' H' w => ?_⟩
  obtain ⟨s', n', S', w⟩ := w
  cases j with
  | zero => exact w.elim
  | succ j =>
    refine fc aS A0 H0 σ' H' s' n' xq _ S' L (mn _ _ _ _ _ (fun b n1 q H1 k1 st1 => ?_) w)
    cases b with
    | true =>
      rw [if_pos rfl]
      refine ⟨fun σ2 H2 => ∃ s2 n2, SR X.K aS O A0 H0 σ2 H2 s2 n2 ∧ sWhileN mt mb xq de j s2 n2, fun σ2 H2 z => ⟨j, Nat.lt_succ_self j, z⟩, ?_⟩
      exact fb aS A0 H0 σ' H1 s' n1 xq { de with nx := fun s2 n2 => sWhileN mt mb xq de j s2 n2, ct := fun s2 n2 => sWhileN mt mb xq de j s2 n2, bk := de.nx } _ (S'.step k1 st1) L
        ⟨fun σ4 H4 s4 n4 S4 q4 => ⟨s4, n4, S4, q4⟩, k.rt, fun σ4 H4 s4 n4 S4 q4 => k.nx σ4 H4 s4 n4 S4 q4, fun σ4 H4 s4 n4 S4 q4 => ⟨s4, n4, S4, q4⟩⟩ q
    | false =>
      rw [if_neg (by decide)]
      exact k.nx σ' H1 s' n1 (S'.step k1 st1) q
/-! ### comprehensions -/
def sLcL (g : DG) (mt : EM Bool) (me : EM D) (xq : XQ) (s0 : Ev) : List D → Nat → List D → (List D → Nat → Prop) → Prop
  | [], n, acc, Q => Q acc n
  | d :: ds, n, acc, Q => g d s0 fun s1 => mt xq s1 n fun c n1 => if c = true then me xq s1 n1 fun x n2 => sLcL g mt me xq s0 ds n2 (acc ++ [x]) Q else sLcL g mt me xq s0 ds n1 acc Q
def eLc (mi : EM (List D)) (hs : List Nat) (g : DG) (mt : EM Bool) (me : EM D) : EM D := fun xq s n Q => mi xq s n fun ds n1 => ds.length ≤ LIM ∧ sLcL g mt me (fun _ _ => False) (hideL s hs) ds n1 [] fun xs n2 => Q (.lst xs) n2
def tYesD : EM Bool := fun _ _ n Q => Q true n
/-- the tests of a clause -/
def VTs (X : Cx) (E : XK) (O : List Nat) (ifs : List Expr) (m : EM Bool) : Prop := Mn m ∧ ∃ t, PTs X ifs t ∧ ∀ (aS : Addr) (A0 : A0T) (H0 : Hp) (σ : L2.St) (H : Hp) (s : Ev) (n : Nat) (xq : XQ) (Q : Bool → Hp → Prop), SR X.K aS O A0 H0 σ H s n → LX X.K E aS A0 H0 xq →
  m xq s n (fun b n' => ∀ H', KpS aS H H' → StA X.K aS H' n' → Q b H') → t σ H Q
theorem vts_nil : VTs X E O [] tYesD := ⟨fun _ _ _ _ _ hq h => hq _ _ h, _, pts_nil, fun aS A0 H0 σ H s n xq Q S L hm => hm H KpS.refl S.st⟩
theorem vts_one {c : Expr} (h : VT X E O c mt) : VTs X E O [c] mt := by
  obtain ⟨mn, t, p, f⟩ := h
  exact ⟨mn, t, pts_one p, f⟩
end
end DL
namespace DL
open PySem PySem.Spec PyProof.Rows L2
variable [TabC]
section
variable {K : PySem.W.Frag} {aS a p : Addr} {H H' H0 H1 Hb : Hp} {A : AS} {A0 : A0T} {O OB : List Nat} {σ : L2.St} {s : Ev} {n i : Nat}
theorem SR.hide2 (S : SR K aS O A0 H0 σ H s n) (hi : i ∉ O) : SR K aS O A0 H0 (σ.set i none) H (s.set i none) n where
  len := by rw [List.length_set, List.length_set]; exact S.len
  sh := fun j d e hj => by
    rw [AV.set hi]
    by_cases hji : j = i
    · subst hji
      have hl : j < s.length := by
        have := (List.getElem?_eq_some_iff.mp e).1
        rwa [List.length_set] at this
      rw [List.getElem?_set_self hl] at e
      cases e
    · rw [set_other hji] at e ⊢
      exact S.sh j d e hj
  ow := fun j hj => by
    have hji : j ≠ i := fun z => hi (z ▸ hj)
    rw [AV.set hi, set_other hji, set_other hji]
    exact S.ow j hj
  ds := fun j k b hj hk e1 e2 => by
    rw [set_other (show j ≠ i from fun z => hi (z ▸ hj))] at e1
    rw [set_other (show k ≠ i from fun z => hi (z ▸ hk))] at e2
    exact S.ds j k b hj hk e1 e2
  fr := S.fr
  st := S.st
  av := S.av
  pn := fun h a e => by
    rw [set_other (show 0 ≠ i from fun z => hi (z ▸ h))]
    exact S.pn h a e
theorem SR.wipe : ∀ {vs : List Nat}, (∀ j ∈ vs, j ∉ O) → SR K aS O A0 H0 σ H s n → SR K aS O A0 H0 (L2.wipe σ vs) H (hideL s vs) n
  | [], _, S => S
  | v :: vs, h, S => (SR.wipe (vs := vs) (fun j hj => h j (List.mem_cons_of_mem _ hj)) S).hide2 (h v List.mem_cons_self)
theorem AV.wipe {A0 : AS} : ∀ {vs : List Nat}, (∀ j ∈ vs, j ∉ O) → AV aS A0 O (L2.wipe σ vs) = AV aS A0 O σ
  | [], _ => rfl
  | v :: vs, h => (AV.set (h v List.mem_cons_self)).trans (AV.wipe (vs := vs) fun j hj => h j (List.mem_cons_of_mem _ hj))
theorem hideL_append (s : Ev) : ∀ vs hs : List Nat, hideL s (vs ++ hs) = hideL (hideL s hs) vs
  | [], _ => rfl
  | v :: vs, hs => by rw [List.cons_append, hideL, hideL, hideL_append s vs hs]
theorem wipe_out : ∀ {vs : List Nat} {j : Nat}, j ∉ vs → (L2.wipe σ vs)[j]? = σ[j]?
  | [], _, _ => rfl
  | v :: vs, j, h => by
    rw [L2.wipe, set_other (show j ≠ v from fun z => h (z ▸ List.mem_cons_self))]
    exact wipe_out fun z => h (List.mem_cons_of_mem _ z)
theorem wipe_in : ∀ {vs : List Nat} {j : Nat}, j ∈ vs → j < σ.length → (L2.wipe σ vs)[j]? = some none
  | v :: vs, j, h, hl => by
    rw [L2.wipe]
    by_cases z : j = v
    · rw [z]
      exact List.getElem?_set_self (by rw [wipe_length, ← z]; exact hl)
    · rw [set_other z]
      exact wipe_in ((List.mem_cons.mp h).resolve_left z) hl
theorem wipe_eq {σ2 : L2.St} {vs : List Nat} (hl : σ2.length = σ.length) (h : ∀ j, j ∉ vs → σ2[j]? = σ[j]?) : L2.wipe σ2 vs = L2.wipe σ vs := by
  apply List.ext_getElem?
  intro j
  by_cases hj : j ∈ vs
  · by_cases hlt : j < σ.length
    · rw [wipe_in hj hlt, wipe_in hj (by rw [hl]; exact hlt)]
    · rw [List.getElem?_eq_none (by rw [wipe_length, hl]; omega), List.getElem?_eq_none (by rw [wipe_length]; omega)]
  · rw [wipe_out hj, wipe_out hj]
    exact h j hj
theorem AV.plus {A0 : AS} : AV aS (fun b => A0 b ∨ b = p) O σ = fun b => AV aS A0 O σ b ∨ b = p := by
  funext b
  unfold AV
  refine propext ⟨fun z => ?_, fun z => ?_⟩
  · rcases z with (z | z) | z | z
    · exact .inl (.inl z)
    · exact .inr z
    · exact .inl (.inr (.inl z))
    · exact .inl (.inr (.inr z))
  · rcases z with (z | z | z) | z
    · exact .inl (.inl z)
    · exact .inr (.inl z)
    · exact .inr (.inr z)
    · exact .inl (.inr z)
/-- a new object that is kept for oneself -/
theorem SR.laidA {o : HO} (S : SR K aS O A0 H0 σ H s n) (hp : H p = none) (ho : ∀ ps, o ≠ .tbl ps := by intro _ z; cases z) : SR K aS O ⟨fun b => A0 b ∨ b = p, A0.z⟩ H0 σ (upd H p o) s n := by
  have up : ∀ b u, H b = some u → upd H p o b = some u := fun b u e => by rw [upd_ne (ne_of_none e hp)]; exact e
  refine ⟨S.len, fun j d e hj => ?_, fun j hj => ?_, S.ds, S.fr.trans (KpS.upd hp), S.st.upd hp ho, fun b hb => ?_, S.pn⟩
  · rw [AV.plus]
    obtain ⟨v, ev, r⟩ := S.sh j d e hj
    exact ⟨v, ev, Rep.mono (sub_new hp) _ _ r⟩
  · rw [AV.plus]
    obtain ⟨d, b, e1, e2, e3, e4, e5, e6⟩ := S.ow j hj
    refine ⟨d, b, e1, e2, e3, fun z => z.elim e4 fun z => S.new hp (.inr (.inr ⟨j, hj, z ▸ e2⟩)), e5, ?_⟩
    cases d with
    | lst ds => obtain ⟨xs, e, q⟩ := e6; exact ⟨xs, up _ _ e, RepL.mono (sub_new hp) _ _ q⟩
    | dic ds => obtain ⟨xs, e, q⟩ := e6; exact ⟨xs, up _ _ e, RepK.mono (sub_new hp) _ _ q⟩
    | dmx ds => obtain ⟨xs, e, q⟩ := e6; exact ⟨xs, up _ _ e, RepP.mono (sub_new hp) _ _ q⟩
    | obj C ds => obtain ⟨dx, xs, e, q⟩ := e6; exact ⟨dx, xs, up _ _ e, RepF.mono (sub_new hp) _ _ q⟩
    | _ => exact e6.elim
  · rcases hb with hb | hb
    · obtain ⟨u, e⟩ := S.av b hb
      exact ⟨u, up _ _ e⟩
    · exact ⟨o, by rw [hb]; exact upd_same⟩
/-- what is kept for oneself is changed -/
theorem sub_poke {o o' : HO} (hA : A p) (ho : H p = some o) (hk : ∀ xs, o ≠ .tup xs) : Sub K H (upd H p o') A A := by
  have ne : ∀ b, ¬ A b → b ≠ p := fun b h z => h (z ▸ hA)
  have up : ∀ b u, H b = some u → b ≠ p → upd H p o' b = some u := fun b u q z => by rw [upd_ne z]; exact q
  refine ⟨fun b xs h q => ⟨h, up _ _ q (ne b h)⟩, fun b xs q => q.elim (fun q => .inl (up _ _ q fun z => ?_)) .inr, fun b ys h q => ⟨h, ?_⟩, fun b ys h q => ⟨h, ?_⟩, fun b C dx ys h q => ⟨h, up _ _ q (ne b h)⟩, fun b u _ h q => ⟨h, up _ _ q (ne b h)⟩⟩
  · have q : H b = _ := q
    rw [z, ho] at q
    cases q
    exact hk _ rfl
  all_goals
    rcases q with q | ⟨z, q⟩
    · exact .inl (up _ _ q (ne b h))
    · exact .inr ⟨z, up _ _ q (ne b h)⟩
theorem SR.poke {o o' : HO} (S : SR K aS O A0 H0 σ H s n) (hA : A0 p) (hs : p ≠ aS) (ho : H p = some o) (h0 : H0 p = none) (hk : ∀ xs, o ≠ .tup xs) (hf : ∀ ob u, o ≠ .frz ob u) (ht : ∀ ps, o ≠ .tbl ps := by intro _ z; cases z) (hx : ∀ c q, o ≠ LamX.CodeO c q := by intro _ _ z; unfold LamX.CodeO at z; cases z) (ht' : ∀ ps, o' ≠ .tbl ps := by intro _ z; cases z) : SR K aS O A0 H0 σ (upd H p o') s n := by
  have hAV : AV aS A0 O σ p := .inl hA
  have up : ∀ b u, H b = some u → b ≠ p → upd H p o' b = some u := fun b u q z => by rw [upd_ne z]; exact q
  have sub : Sub K H (upd H p o') (AV aS A0 O σ) (AV aS A0 O σ) := sub_poke hAV ho hk
  refine ⟨S.len, fun j d ej hj => ?_, fun j hj => ?_, S.ds, fun b u q z => (S.fr b u q z).trans fun v e' => .of (up _ _ e' (fun z => by rw [z, h0] at q; cases q)), ?_, fun b hb => ?_, S.pn⟩
  · obtain ⟨v, q1, r⟩ := S.sh j d ej hj
    exact ⟨v, q1, Rep.mono sub _ _ r⟩
  · obtain ⟨d, b, q1, q2, q3, q4, q5, q6⟩ := S.ow j hj
    have hb : b ≠ p := fun z => q4 (z ▸ hA)
    refine ⟨d, b, q1, q2, q3, q4, q5, ?_⟩
    cases d with
    | lst ds => obtain ⟨xs, e, q⟩ := q6; exact ⟨xs, up _ _ e hb, RepL.mono sub _ _ q⟩
    | dic ds => obtain ⟨xs, e, q⟩ := q6; exact ⟨xs, up _ _ e hb, RepK.mono sub _ _ q⟩
    | dmx ds => obtain ⟨xs, e, q⟩ := q6; exact ⟨xs, up _ _ e hb, RepP.mono sub _ _ q⟩
    | obj C ds => obtain ⟨dx, xs, e, q⟩ := q6; exact ⟨dx, xs, up _ _ e hb, RepF.mono sub _ _ q⟩
    | _ => exact q6.elim
  · obtain ⟨a0, cs, i', g, m, d', z1, z2, ⟨ob, z3⟩, z4, z5, z6, z7, z8, z9, zt⟩ := S.st
    refine ⟨a0, cs, i', g, m, d', up _ _ z1 (Ne.symm hs), z2, ⟨ob, up _ _ z3 fun z => ?_⟩, z4, z5, z6, z7, z8, z9, tabs_poke zt ho ht hx ht'⟩
    rw [z, ho] at z3
    cases z3
    exact hf _ _ rfl
  · by_cases z : b = p
    · rw [z, upd_same]
      exact ⟨_, rfl⟩
    · obtain ⟨u, q⟩ := S.av b hb
      exact ⟨u, up _ _ q z⟩
end
/-! a reading for all blocks at once -/
abbrev Bk := Shared × Hp × Addr × List (Str × Addr) × List Addr
abbrev Cx.bk (X : Cx) (scope : Scope) (c : Bk) : Cx := X.blk c.1 c.2.1 scope (compEnvC scope c.2.2.2.1 c.2.2.1 X.env) c.2.2.2.2
section
variable {X : Cx} {E : XK} {O OB vs hid : List Nat} {tg e iter : Expr} {ifs : List Expr} {m me : EM D} {mi : EM (List D)} {mt : EM Bool} {g : DG} {scope : Scope} {pos : Pos}
theorem VX.all {R : RK} (h : ∀ c : Bk, VX R (Cx.bk X scope c) E O e m) : ∃ t, (∀ c : Bk, PE (Cx.bk X scope c) e t) ∧ ∀ (aS : Addr) (A0 : A0T) (H0 : Hp) (σ : L2.St) (H : Hp) (s : Ev) (n : Nat) (xq : XQ) (Q : VK), SR X.K aS O A0 H0 σ H s n → LX X.K E aS A0 H0 xq →
    m xq s n (fun d n' => ∀ v H', KpS aS H H' → StA X.K aS H' n' → R X.K aS H' (AV aS A0 O σ) d v → Q v H') → t σ H Q := by
  have h2 := fun c => (h c).2
  refine ⟨fun σ H Q => ∀ c, Classical.choose (h2 c) σ H Q, fun c => ⟨fun pins s σ H Q I q => (Classical.choose_spec (h2 c)).1.run pins s σ H Q I (q c)⟩, fun aS A0 H0 σ H s n xq Q S L hm c => (Classical.choose_spec (h2 c)).2 aS A0 H0 σ H s n xq Q S L hm⟩
theorem VTs.all (h : ∀ c : Bk, VTs (Cx.bk X scope c) E O ifs mt) : ∃ t, (∀ c : Bk, PTs (Cx.bk X scope c) ifs t) ∧ ∀ (aS : Addr) (A0 : A0T) (H0 : Hp) (σ : L2.St) (H : Hp) (s : Ev) (n : Nat) (xq : XQ) (Q : Bool → Hp → Prop), SR X.K aS O A0 H0 σ H s n → LX X.K E aS A0 H0 xq →
    mt xq s n (fun b n' => ∀ H', KpS aS H H' → StA X.K aS H' n' → Q b H') → t σ H Q := by
  have h2 := fun c => (h c).2
  refine ⟨fun σ H Q => ∀ c, Classical.choose (h2 c) σ H Q, fun c => ⟨fun pins s σ H Q I q => (Classical.choose_spec (h2 c)).1.run pins s σ H Q I (q c)⟩, fun aS A0 H0 σ H s n xq Q S L hm c => (Classical.choose_spec (h2 c)).2 aS A0 H0 σ H s n xq Q S L hm⟩
theorem VG.all (h : ∀ c : Bk, VG (Cx.bk X scope c) O vs tg g) : ∃ gt, (∀ c : Bk, PG (Cx.bk X scope c) tg gt) ∧ ∀ (aS : Addr) (A0 : A0T) (H0 : Hp) (σ : L2.St) (H : Hp) (s : Ev) (n : Nat) (d : D) (v : V) (Q : Ev → Prop) (QH : L2.St → Hp → Prop), SR X.K aS O A0 H0 σ H s n → Rep X.K aS H (AV aS A0 O σ) d v → g d s Q →
    (∀ σ' s', SR X.K aS O A0 H0 σ' H s' n → σ'.length = σ.length → (∀ j, j ∉ vs → σ'[j]? = σ[j]?) → AV aS A0 O σ' = AV aS A0 O σ → Q s' → QH σ' H) → gt v σ H QH := by
  have h2 := fun c => (h c).2
  refine ⟨fun v σ H Q => ∀ c, Classical.choose (h2 c) v σ H Q, fun c => ⟨fun pins s σ H v u Q I r q => (Classical.choose_spec (h2 c)).1.run pins s σ H v u Q I r (q c)⟩, fun aS A0 H0 σ H s n d v Q QH S r hm k c => (Classical.choose_spec (h2 c)).2 aS A0 H0 σ H s n d v Q QH S r hm k⟩
def bk0 : Bk := ({}, fun _ => none, 0, [], [])
theorem mn_lcL (h1 : Mn mt) (h2 : Mn me) (h3 : ∀ d s Q Q', (∀ s', Q s' → Q' s') → g d s Q → g d s Q') {xq : XQ} {s0 : Ev} : ∀ (ds : List D) (n : Nat) (acc : List D) (Q Q' : List D → Nat → Prop), (∀ x n, Q x n → Q' x n) → sLcL g mt me xq s0 ds n acc Q → sLcL g mt me xq s0 ds n acc Q'
  | [], n, acc, Q, Q', hq, h => hq _ _ h
  | d :: ds, n, acc, Q, Q', hq, h => h3 _ _ _ _ (fun s1 h => h1 _ _ _ _ _ (fun c n1 h => by
      cases c with
      | true => exact h2 _ _ _ _ _ (fun x n2 h => mn_lcL h1 h2 h3 ds n2 _ Q Q' hq h) h
      | false => exact mn_lcL h1 h2 h3 ds n1 _ Q Q' hq h) h) h
theorem vf_lcAt {own : List (Str × Nat)} {ws : List Nat} (hc : X.calm = true) (hN : X.N.Nodup) (hi : VI X E O OB hid tg iter mi) (ok : BlkOk X.N X.env.scope scope own) (hown : ∀ j ∈ own.map (·.2), j ∉ OB) (hws : ∀ j ∈ ws, j ∈ own.map (·.2))
    (hg : ∀ c : Bk, VG (Cx.bk X scope c) OB ws tg g) (ht : ∀ c : Bk, VTs (Cx.bk X scope c) EF OB ifs mt) (he : ∀ c : Bk, VE (Cx.bk X scope c) EF OB e me) :
    Mn (eLc mi (own.map (·.2) ++ hid) g mt me) ∧ ∃ wi gt tt te, PI X tg iter wi ∧ (∀ c : Bk, PG (Cx.bk X scope c) tg gt) ∧ (∀ c : Bk, PTs (Cx.bk X scope c) ifs tt) ∧ (∀ c : Bk, PE (Cx.bk X scope c) e te) ∧
      ∀ (aS : Addr) (A0 : A0T) (H0 : Hp) (σ : L2.St) (H : Hp) (s : Ev) (n : Nat) (xq : XQ) (Q : VK), SR X.K aS O A0 H0 σ H s n → LX X.K E aS A0 H0 xq →
      eLc mi (own.map (·.2) ++ hid) g mt me xq s n (fun d n' => ∀ a H', H a = none → KpS aS H H' → StA X.K aS H' n' → Own X.K aS H' (fun b => AV aS A0 O σ b ∨ b = a) a d → Q (.ref a) H') → tLc wi gt tt te (own.map (·.2)) σ H Q := by
  have mnt := (ht bk0).1
  have mne := (he bk0).1
  have mng := (hg bk0).1
  obtain ⟨mni, wi, pi, fi⟩ := hi
  obtain ⟨gt, pg, fg⟩ := VG.all hg
  obtain ⟨tt, pt, ft⟩ := VTs.all ht
  obtain ⟨te, pe, fe⟩ := VX.all he
  refine ⟨fun xq s n Q Q' hq h => mni _ _ _ _ _ (fun ds n1 h => ⟨h.1, mn_lcL mnt mne mng _ _ _ _ _ (fun x n2 => hq _ _) h.2⟩) h, wi, gt, tt, te, pi, pg, pt, pe, fun aS A0 H0 σ H s n xq Q S L hm => ?_⟩
  have LF : ∀ A1, LX X.K EF aS A1 H0 (fun _ _ => False) := fun _ _ _ _ _ _ _ _ _ z => z.elim
  refine fi aS A0 H0 σ H s n xq _ S L (mni _ _ _ _ _ (fun ds n1 q J H1 A1 kp st eA S1 it => ?_) hm)
  obtain ⟨hlim, q⟩ := q
  intro Dn hD
  obtain ⟨G, Y, w, hG, hY⟩ := it
  have hDs : Dn ≠ aS := fun z => by
    obtain ⟨xs, e⟩ := st.lst
    rw [z, e] at hD
    cases hD
  have hD0 : H0 Dn = none := Option.eq_none_iff_forall_ne_some.mpr fun u z => by
    exact (KpS.gone S1.fr hD z (hDs)).elim
  have hDH : H Dn = none := Option.eq_none_iff_forall_ne_some.mpr fun u z => by
    exact (KpS.gone kp hD z (hDs)).elim
  have S2 : SR X.K aS OB ⟨fun b => A1 b ∨ b = Dn, A1.z⟩ H0 (L2.wipe σ (own.map (·.2))) (upd H1 Dn (.lst [])) (hideL s (own.map (·.2) ++ hid)) n1 := by
    rw [hideL_append]
    exact (SR.wipe hown S1).laidA hD
  have hFar : ∀ {σ'}, AV aS (fun b => A1 b ∨ b = Dn) OB σ' = AV aS (fun b => A1 b ∨ b = Dn) OB σ → Far aS A1 (bare OB σ H1) (AV aS (fun b => A1 b ∨ b = Dn) OB σ') := fun {σ'} e => by
    rw [e]
    refine ⟨AV.st, fun b z => ?_⟩
    rcases z with (z | z) | z | z
    · exact .inl z
    · refine .inr (.inr ?_)
      by_cases y : ∃ i, i ∈ OB ∧ σ[i]? = some (some (.ref b))
      · exact bare_own y
      · rw [bare_not y, z]; exact hD
    · exact .inr (.inl z)
    · exact .inr (.inr (bare_own z))
  have eW : AV aS (fun b => A1 b ∨ b = Dn) OB (L2.wipe σ (own.map (·.2))) = AV aS (fun b => A1 b ∨ b = Dn) OB σ := AV.wipe hown
  have kb : ∀ {H'}, KpS aS H1 H' → KpS aS (bare OB σ H1) H' := fun {H'} k b u e z => k b u (bare_some e) z
  refine lc_it w (fun i H' => ∃ n' acc xs, SR X.K aS OB ⟨fun b => A1 b ∨ b = Dn, A1.z⟩ H0 (L2.wipe σ (own.map (·.2))) H' (hideL s (own.map (·.2) ++ hid)) n' ∧ KpS aS H1 H' ∧ H' Dn = some (.lst xs) ∧ RepL X.K aS H' (AV aS (fun b => A1 b ∨ b = Dn) OB σ) acc xs ∧ acc.length ≤ i ∧
      sLcL g mt me (fun _ _ => False) (hideL s (own.map (·.2) ++ hid)) (ds.drop i) n' acc (fun xs n2 => ∀ a H', H a = none → KpS aS H H' → StA X.K aS H' n2 → Own X.K aS H' (fun b => AV aS A0 O σ b ∨ b = a) a (.lst xs) → Q (.ref a) H'))
    ⟨n1, [], [], S2, KpS.upd hD, upd_same, RepL.nil, Nat.zero_le _, q⟩ (fun i H' _ z => ?_) (fun i x H' H2 hi z y => ?_) (fun H' z => ?_)
  · obtain ⟨n', acc, xs, _, k1, _⟩ := z
    exact hG H' (kb k1)
  · obtain ⟨n', acc, xs, S', k1, hd, rl, hl, q'⟩ := z
    obtain ⟨k2, d, ed, rd⟩ := hY i H' x H2 n' _ hi (kb k1) S'.st (hFar eW) y
    rw [drop_get ed] at q'
    have S3 := S'.step (KpS.all k2.1) (S'.st.kp k2)
    refine fg aS _ H0 _ H2 _ n' d x _ _ S3 rd q' fun σ3 s3 S4 l3 o3 a3 q3 => ?_
    refine ⟨?_, ft aS _ H0 σ3 H2 s3 n' (fun _ _ => False) _ S4 (LF _) (mnt _ _ _ _ _ (fun c n2 q4 H3 k3 st3 => ?_) q3)⟩
    · have e1 := wipe_eq (vs := own.map (·.2)) l3 fun j hj => o3 j fun z => hj (hws j z)
      rw [e1]
      exact wipe_eq (wipe_length _ _) fun j hj => wipe_out hj
    · have kk : KpS aS H' H3 := (KpS.all k2.1).trans k3
      cases c with
      | true =>
        rw [if_pos rfl] at q4 ⊢
        refine fe aS _ H0 σ3 H3 s3 n2 (fun _ _ => False) _ (S4.step k3 st3) (LF _) (mne _ _ _ _ _ (fun y n3 q5 v H4 k4 st4 r4 => ?_) q4)
        have k5 := kk.trans k4
        refine ⟨xs, k5.lst hd hDs, ?_, n3, acc ++ [y], xs ++ [v], ?_, KpS.upd2 (k1.trans k5) hD, upd_same, ?_, by rw [List.length_append]; exact Nat.succ_le_succ hl, q5⟩
        · rw [rl.length]
          exact Nat.lt_of_le_of_lt hl (lim_lt (Nat.lt_of_lt_of_le hi hlim))
        · exact (S'.step k5 st4).poke (.inr rfl) hDs (k5.lst hd hDs) hD0 (fun _ z => nomatch z) (fun _ _ z => nomatch z)
        · have e2 : AV aS (fun b => A1 b ∨ b = Dn) OB σ3 = AV aS (fun b => A1 b ∨ b = Dn) OB σ := a3.trans eW
          rw [e2] at r4
          exact RepL.mono (sub_poke (A := AV aS (fun b => A1 b ∨ b = Dn) OB σ) (.inl (.inr rfl)) (k5.lst hd hDs) (fun _ z => nomatch z)) _ _ ((rl.kp k5 S'.st AV.st).app (RepL.cons r4 RepL.nil))
      | false =>
        rw [if_neg (by decide)] at q4 ⊢
        exact ⟨n2, acc, xs, S'.step kk st3, k1.trans kk, kk.lst hd hDs, rl.kp kk S'.st AV.st, Nat.le_succ_of_le hl, q4⟩
  · obtain ⟨n', acc, xs, S', k1, hd, rl, hl, q'⟩ := z
    rw [List.drop_length] at q'
    refine q' Dn H' hDH (kp.trans k1) S'.st ⟨xs, hd, ?_⟩
    rw [AV.plus, eA] at rl
    exact rl
theorem vf_lc {own : List (Str × Nat)} {ws : List Nat} (hc : X.calm = true) (hN : X.N.Nodup) (hi : VI X E O OB hid tg iter mi) (ok : BlkOk X.N X.env.scope scope own) (hown : ∀ j ∈ own.map (·.2), j ∉ OB) (hws : ∀ j ∈ ws, j ∈ own.map (·.2))
    (hg : ∀ c : Bk, VG (Cx.bk X scope c) OB ws tg g) (ht : ∀ c : Bk, VTs (Cx.bk X scope c) EF OB ifs mt) (he : ∀ c : Bk, VE (Cx.bk X scope c) EF OB e me) (hs : ∀ x, foldedSetIterable iter X.env x = pure x := by intro _; rfl) :
    VF X E O (.ListComp e [⟨tg, iter, ifs, 0⟩] scope pos) (eLc mi (own.map (·.2) ++ hid) g mt me) := by
  obtain ⟨mn, wi, gt, tt, te, pi, pg, pt, pe, f⟩ := vf_lcAt hc hN hi ok hown hws hg ht he
  refine ⟨mn, _, pe_lc hc hN pi ok (fun s H C cl fp => pg (s, H, C, cl, fp)) (fun s H C cl fp => pt (s, H, C, cl, fp)) (fun s H C cl fp => pe (s, H, C, cl, fp)) hs, fun aS A0 H0 σ H s n xq Q S L hm => f aS A0 H0 σ H s n xq Q S L hm⟩
end
end DL
namespace DL
open PySem PySem.Spec PyProof.Rows L2
variable [TabC]
/-! ### what leaves by an error -/
/-- what is raised with the wish E is taken -/
def TK (X : Cx) (E : XK) : Prop := Takes X (fun c d _ H => E c d H)
/-- locks (none of them the entry's) are let go -/
inductive Unl (H0 : Hp) : Hp → Hp → Prop
  | refl (H : Hp) : Unl H0 H H
  | step {H H2 : Hp} {b : Addr} {od : Obj} {u : HO} : H b = some (.frz od u) → (∀ o' u', H0 b ≠ some (.frz o' u')) → Unl H0 (upd H b u) H2 → Unl H0 H H2
def EU (H0 : Hp) (E : XK) : XK := fun c d H => ∃ H2, Unl H0 H H2 ∧ E c d H2
def UC (X : Cx) (E : XK) : Prop := ∀ (c : Value) (d : Option Addr) (H : Hp) (b : Addr) (od : Obj) (u : HO), H b = some (.frz od u) → (∀ o' u', X.H_0 b ≠ some (.frz o' u')) → E c d (upd H b u) → E c d H

section
variable {X : Cx} {E : XK} {K : PySem.W.Frag} {aS : Addr} {A0 : A0T} {O : List Nat} {σ : L2.St} {H H0 : Hp} {s : Ev} {n : Nat} {xq : XQ}
theorem uc_eu : UC X (EU X.H_0 E) := fun c d H b od u h hn ⟨H2, un, e⟩ => ⟨H2, .step h hn un, e⟩
theorem tk_f : TK X EF := fun u s' ⟨_, _, _, _, _, _, _, _, _, _, _, _, _, _, _, _, w⟩ => w.elim
theorem inv_unl {pins : List (Addr × Obj)} {s : Shared} {H2 : Hp} (un : Unl X.H_0 H H2) : Inv X pins σ H s → Inv X pins σ H2 s := by
  induction un with
  | refl => exact fun I => I
  | step h hn _ ih => exact fun I => ih (I.unlock h hn)
theorem none_unl {H2 : Hp} {a : Addr} (un : Unl H0 H H2) : H a = none → H2 a = none := by
  induction un with
  | refl => exact fun z => z
  | @step H H2 b od u h hn _ ih => exact fun z => ih (by rw [upd_ne (fun e => by rw [e, h] at z; cases z)]; exact z)
theorem tk_eu (t : TK X E) : TK X (EU X.H_0 E) := fun u s' ⟨a, B, sI, pins, σ, H, cls, d, e, I, nb, up, sky, na, os, ag, H2, un, w⟩ =>
  t u s' ⟨a, B, sI, pins, σ, H2, cls, d, e, inv_unl un I, nb, up, sky, none_unl un na, os, ag, w⟩
theorem LX.eu {A : AS} (L : LX K E aS A H xq) : LX K (EU H0 E) aS A H xq := fun C fs n d H' k st r q => ⟨H', .refl _, L C fs n d H' k st r q⟩
/-- what a callee raises -/
theorem LX.call (S : SR K aS O A0 H0 σ H s n) (L : LX K E aS A0 H0 xq) : LX K E aS (AV aS A0 O σ) H xq := fun C fs n' d H' k st r q => by
  refine L C fs n' d H' (S.fr.trans k) st ?_ q
  cases d with
  | none => exact r
  | some a =>
    obtain ⟨ys, h1, h2, h3⟩ := r
    refine ⟨ys, ?_, h2, RepF.mono (sub_le fun b z => ?_) _ _ h3⟩
    · cases e : H0 a with
      | none => rfl
      | some u =>
        by_cases ha : a = aS
        · obtain ⟨xs, q⟩ := S.st.lst
          rw [ha, q] at h1
          cases h1
        · exact (KpS.gone S.fr h1 e (ha)).elim
    · rcases z with z | z | ⟨j, hj, _⟩
      · exact .inl (.inl z)
      · exact .inr (.inl z)
      · cases hj
end
theorem FnOk.loud {P : Program} {w : World} {K : PySem.W.Frag} {mg : Str → Option Value} {base : Heap} {k : Nat} {f : Addr} {fd : FuncData} {ps : List Str} {sp : Sp} (F : FnOk P w K mg base CX0 k f fd ps sp) : FnOk P w K mg base (CX P w) k f fd ps sp :=
  ⟨F.len, fun A outer s H args us vs Q E hr e0 hb r h => codeAny_mono (F.run A outer s H args us vs Q E hr e0 hb r h) fun r s' q => by
    cases r with
    | ok fl => cases fl <;> exact q
    | error e => exact False.elim q⟩
end DL
namespace DL
open PySem PySem.Spec PyProof.Rows L2
variable [TabC]
/-! ### defs -/
structure FSp where
  run : List D → Nat → (D → Nat → Prop) → XQ → Prop
  mn : ∀ ds n Q Q' xq, (∀ d n', Q d n' → Q' d n') → run ds n Q xq → run ds n Q' xq
theorem AV.of {aS : Addr} {A : AS} (h : A aS) : AV aS A [] [] = A := by
  funext b
  refine propext ⟨fun z => ?_, fun z => .inl z⟩
  rcases z with z | z | ⟨j, hj, _⟩
  · exact z
  · exact z ▸ h
  · cases hj
/-- the promise of a def, over values and heaps -/
def lift (K : PySem.W.Frag) (len : Nat) (sp : FSp) : Sp := fun vs H Q E => ∃ (aS : Addr) (A0 : AS) (ds : List D) (n : Nat) (xq : XQ), ds.length = len ∧ RepL K aS H (AV aS A0 [] []) ds vs ∧ StA K aS H n ∧ (∀ a, A0 a → ∃ u, H a = some u) ∧ LX K E aS A0 H xq ∧
  sp.run ds n (fun d n' => ∀ v H', KpS aS H H' → StA K aS H' n' → Rep K aS H' (AV aS A0 [] []) d v → Q v H') xq
def startD (N : List Str) (ds : List D) : Ev := ds.map some ++ List.replicate (N.length - ds.length) none
theorem start_get {α : Type} {l : List α} {k i : Nat} {x : α} (h : (l.map some ++ List.replicate k none)[i]? = some (some x)) : l[i]? = some x := by
  by_cases hi : i < l.length
  · rw [List.getElem?_append_left (by simpa using hi), List.getElem?_map] at h
    cases e : l[i]? with
    | none => rw [e] at h; cases h
    | some y => rw [e] at h; cases h; rfl
  · rw [List.getElem?_append_right (by simpa using hi), List.getElem?_replicate] at h
    split at h <;> cases h
theorem get_start {α : Type} {l : List α} {k i : Nat} {x : α} (h : l[i]? = some x) : (l.map some ++ List.replicate k none)[i]? = some (some x) := by
  have hi := (List.getElem?_eq_some_iff.mp h).1
  rw [List.getElem?_append_left (by simpa using hi), List.getElem?_map, h]
  rfl
section
variable {P : Program} {w : World} {K : PySem.W.Frag} {mg : Str → Option Value} {base : Heap} {x qual : Str} {params : Arguments} {body : List Stmt} {scope : Scope} {dvs : List V} {kws : List (Str × V)} {f : Addr} {fd : FuncData}
theorem SR.start {aS : Addr} {A0 : AS} {H : Hp} {N : List Str} {ds : List D} {vs : List V} {n : Nat} (r : RepL K aS H (AV aS A0 [] []) ds vs) (st : StA K aS H n) (av : ∀ a, A0 a → ∃ u, H a = some u) : SR K aS [] ⟨A0, none⟩ H (L2.start N vs) H (startD N ds) n := by
  have eA : AV aS A0 [] (L2.start N vs) = AV aS A0 [] [] := by
    funext b
    refine propext ⟨fun z => ?_, fun z => av_nil b z⟩
    rcases z with z | z | ⟨j, hj, _⟩
    · exact .inl z
    · exact .inr (.inl z)
    · cases hj
  refine ⟨?_, fun i d e _ => ?_, (fun i hi => nomatch hi), (fun i j b hi => nomatch hi), KpS.refl, st, av, (fun hi => nomatch hi)⟩
  · unfold L2.start startD
    rw [List.length_append, List.length_append, List.length_map, List.length_map, List.length_replicate, List.length_replicate, r.length]
  · obtain ⟨v, ev, rv⟩ := r.get (start_get e)
    rw [eA]
    exact ⟨v, get_start ev, rv⟩
theorem dfn {N ps : List Str} {k : Nat} {sp : FSp} {m : SM} {O' : List Nat} (F : FunD K x qual params body scope dvs kws f fd) (Sc : FnScope N ps scope)
    (hb : ∀ (cdv : Value) (A : Around) (outer : List Env) (s : Shared) (H : Hp) (E : XK), Room k (A.deeper (envOfC qual scope s.heap.objs.size f cdv)) → VSs (cxOf (CX P w) P w K mg base N qual scope f cdv A outer s H E) (EU H E) [] O' [] body m)
    (hm : ∀ ds n Q xq, ds.length = ps.length → sp.run ds n Q xq → m xq { nx := fun _ n' => Q .non n', rt := Q } (startD N ds) n) : FnOk P w K mg base (CX P w) (k + 1) f fd ps (lift K ps.length sp) := by
  refine F.ok Sc (fun vs H Q E h => ?_) (fun cdv A outer s H vs Q E hr h => ?_)
  · obtain ⟨aS, A0, ds, n, xq, hl, r, _⟩ := h
    rw [r.length, hl]
  · obtain ⟨aS, A0, ds, n, xq, hl, r, st, av, L, q⟩ := h
    obtain ⟨t, p, ft⟩ := hb cdv A outer s H E hr
    refine ⟨t, p, ft aS ⟨A0, none⟩ H _ H _ n xq _ _ (SR.start r st av) L.eu ?_ (hm ds n _ xq hl q)⟩
    refine ⟨fun σ' H' s' n' S' q' => q' .non H' S'.fr S'.st rep_non, fun v H' d n' kp st' r' q' => q' v H' kp st' r', fun _ _ _ _ _ z => z.elim, fun _ _ _ _ _ z => z.elim⟩
end
/-! ### calls -/
def eCall (len : Nat) (sp : FSp) (dds : List D) (m : EM (List D)) : EM D := fun xq s n Q => m xq s n fun ds n1 => (ds ++ dds).length = len ∧ sp.run (ds ++ dds) n1 Q xq
section
variable {X : Cx} {E : XK} {O : List Nat} {e o : Expr} {es : List Expr} {mo : EM D} {ml : EM (List D)} {pos p : Pos} {x : Str} {f : Addr} {C : Str} {fd : FuncData} {ps : List Str} {k : Nat} {sp : FSp} {dds : List D} {dvs : List V} {us : List Value}
theorem mn_call {len : Nat} (h : Mn ml) : Mn (eCall len sp dds ml) := fun xq s n Q Q' hq w => h _ _ _ _ _ (fun ds n1 w => ⟨w.1, sp.mn _ _ _ _ _ hq w.2⟩) w
abbrev ET : XK := fun _ _ _ => True
theorem passT : Passes CX0 X ET := fun _ _ _ _ _ _ _ h => h.elim
/-- the promise's question, from the caller's state -/
theorem SR.call {K : PySem.W.Frag} {aS : Addr} {A0 : A0T} {H0 H : Hp} {σ : L2.St} {s : Ev} {n len : Nat} {ds : List D} {vs : List V} {xq : XQ} {Q : VK} (S : SR K aS O A0 H0 σ H s n) (L : LX K E aS A0 H0 xq) (hl : ds.length = len) (r : RepL K aS H (AV aS A0 O σ) ds vs)
    (q : sp.run ds n (fun d n' => ∀ v H', KpS aS H H' → StA K aS H' n' → Rep K aS H' (AV aS A0 O σ) d v → Q v H') xq) : lift K len sp vs H Q E := by
  have eA : AV aS (AV aS A0 O σ) [] [] = AV aS A0 O σ := AV.of AV.st
  refine ⟨aS, AV aS A0 O σ, ds, n, xq, hl, by rw [eA]; exact r, S.st, S.cn.dom, L.call S, ?_⟩
  rw [eA]
  exact q
theorem ve_call (tk : TK X E) (F : FnOk X.prog X.w X.K X.mg X.base (CX X.prog X.w) k f fd ps (lift X.K ps.length sp)) (hr : Room k X.A) (hg : Gl X x) (hm : X.mg x = some (.ref f)) (hk : PySem.W.keepIn X.K (.ref f) = true) (hb : Binds X.K fd ps us) (hd : Vals dvs us)
    (hdd : ∀ aS H A, RepL X.K aS H A dds dvs) (ha : VA Rep X E O (e :: es) ml) (hdb : (x == ("__debug__" : Str)) = false := by decide)
    (he : starEach (e :: es) X.env = (false, eval e X.env) :: starEach es X.env := by rfl) (hpl : (backTo pos (starEach es X.env)).any (·.1) = false := by rfl) : VE X E O (.Call (.Name x p) (e :: es) [] pos) (eCall ps.length sp dds ml) := by
  obtain ⟨mn, t, pa, ft⟩ := ha
  refine ⟨mn_call mn, _, pe_call F hr hg hm hk  hb hd (passes_call tk fun _ _ _ _ h => h) pa hdb he hpl, fun aS A0 H0 σ H s n xq Q S L hm => ?_⟩
  refine ft aS A0 H0 σ H s n xq _ S L (mn _ _ _ _ _ (fun ds n1 q vs H1 k1 st1 r1 => ?_) hm)
  exact (S.step k1 st1).call L q.1 ((RL.repL r1).app (hdd aS H1 _)) (sp.mn _ _ _ _ _ (fun d n' w v H' kp st r => w v H' (k1.trans kp) st r) q.2)
theorem repF_look {K : PySem.W.Frag} {aS : Addr} {H : Hp} {A : AS} (g : Str) : ∀ {fs : List (Str × D)} {ys : List (Str × V)}, RepF K aS H A fs ys → (fs.lookup g = none ∧ ys.lookup g = none) ∨ ∃ d v, fs.lookup g = some d ∧ ys.lookup g = some v ∧ Rep K aS H A d v
  | [], ys, h => by
    rw [RepF] at h
    subst h
    exact .inl ⟨rfl, rfl⟩
  | (k, d) :: fs, ys, h => by
    rw [RepF] at h
    obtain ⟨v, vr, e, r, q⟩ := h
    subst e
    rw [List.lookup_cons, List.lookup_cons]
    cases hb : g == k with
    | true => exact .inr ⟨d, v, rfl, rfl, r⟩
    | false => exact repF_look g q
/-! ### fields -/
def putFD (f : Str) (v : D) : List (Str × D) → List (Str × D)
  | [] => [(f, v)]
  | (g, x) :: r => if g = f then (g, v) :: r else (g, x) :: putFD f v r
theorem repF_put {K : PySem.W.Frag} {aS : Addr} {H : Hp} {A : AS} {g : Str} {d : D} {v : V} (r : Rep K aS H A d v) : ∀ {fs : List (Str × D)} {ys : List (Str × V)}, RepF K aS H A fs ys → RepF K aS H A (putFD g d fs) (putF g v ys)
  | [], ys, h => by
    rw [RepF] at h
    subst h
    rw [putFD, putF, RepF]
    exact ⟨v, [], rfl, r, by rw [RepF]⟩
  | (k, d') :: fs, ys, h => by
    rw [RepF] at h
    obtain ⟨v', vr, e, r', q⟩ := h
    subst e
    rw [putFD, putF]
    split
    · rw [RepF]
      exact ⟨v, vr, rfl, r, q⟩
    · rw [RepF]
      exact ⟨v', _, rfl, r', repF_put r q⟩
theorem repF_length {K : PySem.W.Frag} {aS : Addr} {H : Hp} {A : AS} : ∀ {fs : List (Str × D)} {ys : List (Str × V)}, RepF K aS H A fs ys → ys.length = fs.length
  | [], ys, h => by
    rw [RepF] at h
    rw [h]
    rfl
  | (k, d') :: fs, ys, h => by
    rw [RepF] at h
    obtain ⟨v', vr, e, r', q⟩ := h
    rw [e, List.length_cons, List.length_cons, repF_length q]
def sFldD (i : Nat) (C : Str) (g : Str) (m : EM D) : SM := fun xq de s n => m xq s n fun d n' => ∃ fs, s[i]? = some (some (.obj C fs)) ∧ fs.length < 1000 ∧ de.nx (s.set i (some (.obj C (putFD g d fs)))) n'
/-- self.f = e, self owned -/
theorem vs_fld {i : Nat} {g y : Str} {m : EM D} {OL : List Nat} {p2 : Pos} (hi : i ∈ O) (hN : X.N[i]? = some y) (hv : Vis X.env.scope y) (cl : Cls X.K (He.ga X.K C)) (na : NoAttr X.K (He.ga X.K C) g) (h : VE X E O e m) (hs : swapsWith e (some (.Attribute (.Name y p2) g p)) pos.line X.env = pure false := by rfl)
    (hd : (y == ("__debug__" : Str)) = false := by decide) (hcd : (y == ("__classdict__" : Str)) = false := by decide) : VS X E O O OL (.Assign [.Attribute (.Name y p2) g p] e pos) (sFldD i C g m) := by
  obtain ⟨mn, t, pe, f⟩ := h
  refine ⟨_, ps_fld (pe_var hN hv hd hcd) pe hs, fun aS A0 H0 σ H s n xq de De S L k h => f aS A0 H0 σ H s n xq _ S L (mn _ _ _ _ _ (fun d n' q v H' kp st r => ?_) h)⟩
  obtain ⟨fs, e, hl, q⟩ := q
  have S' := S.step kp st
  obtain ⟨d0, a, e1, e2, e3, e4, e5, e6⟩ := S'.ow i hi
  rw [e] at e1
  cases e1
  obtain ⟨dx, ys, ha, rf⟩ := e6
  have hA : AV aS A0 O σ a := .inr (.inr ⟨i, hi, e2⟩)
  refine ⟨_, e2, a, He.ga X.K C, dx, ys, rfl, ha, cl, na, by rw [repF_length rf]; exact hl, k.nx _ _ _ n' (S'.mut (d := .obj C (putFD g d fs)) hi e2 ha (fun _ z => nomatch z) (fun _ _ z => nomatch z) ⟨dx, _, upd_same, ?_⟩) q⟩
  exact RepF.mono (sub_poke hA ha fun _ z => nomatch z) _ _ (repF_put r rf)
end
/-! ### making an instance -/
def liftI (K : PySem.W.Frag) (C : Str) (len : Nat) (sp : FSp) : Sp := fun vs H Q E => ∃ (aS : Addr) (A0 : AS) (ds : List D) (n : Nat) (xq : XQ) (x dx : Addr) (ws : List V), vs = .ref x :: ws ∧ ds.length + 1 = len ∧ H x = some (.ins (He.ga K C) dx []) ∧ ¬ A0 x ∧ x ≠ aS ∧
  RepL K aS H (fun b => AV aS A0 [] [] b ∨ b = x) ds ws ∧ StA K aS H n ∧ (∀ a, A0 a → ∃ u, H a = some u) ∧ LX K E aS A0 (fun b => if b = x then none else H b) xq ∧
  sp.run ds n (fun d n' => ∃ fs, d = .obj C fs ∧ ∀ H' dx' ys, (∀ b u, H b = some u → b ≠ aS → b ≠ x → Kp1 u (H' b)) → StA K aS H' n' → H' x = some (.ins (He.ga K C) dx' ys) → RepF K aS H' (fun b => AV aS A0 [] [] b ∨ b = x) fs ys → Q .non H') xq
section
variable {P : Program} {w : World} {K : PySem.W.Frag} {mg : Str → Option Value} {base : Heap} {x qual : Str} {params : Arguments} {body : List Stmt} {scope : Scope} {dvs : List V} {kws : List (Str × V)} {f : Addr} {C : Str} {fd : FuncData}
theorem SR.startI {aS a dx : Addr} {A0 : AS} {H : Hp} {N : List Str} {ds : List D} {ws : List V} {n : Nat} (hx : H a = some (.ins (He.ga K C) dx [])) (na : ¬ A0 a) (ns : a ≠ aS) (r : RepL K aS H (fun b => AV aS A0 [] [] b ∨ b = a) ds ws) (st : StA K aS H n) (av : ∀ a, A0 a → ∃ u, H a = some u) :
    SR K aS [0] ⟨A0, some a⟩ (fun b => if b = a then none else H b) (L2.start N (.ref a :: ws)) H (startD N (.obj C [] :: ds)) n ∧ AV aS A0 [0] (L2.start N (.ref a :: ws)) = fun b => AV aS A0 [] [] b ∨ b = a := by
  have e0 : (L2.start N (.ref a :: ws))[0]? = some (some (.ref a)) := rfl
  have eA : AV aS A0 [0] (L2.start N (.ref a :: ws)) = fun b => AV aS A0 [] [] b ∨ b = a := by
    funext b
    refine propext ⟨fun z => ?_, fun z => ?_⟩
    · rcases z with z | z | ⟨j, hj, e⟩
      · exact .inl (.inl z)
      · exact .inl (.inr (.inl z))
      · have hj : j = 0 := by simpa using hj
        subst hj
        rw [e0] at e
        cases e
        exact .inr rfl
    · rcases z with z | z
      · exact av_nil b z
      · exact .inr (.inr ⟨0, by simp, by rw [z]; exact e0⟩)
  refine ⟨⟨?_, fun i d e hi => ?_, fun i hi => ?_, fun i j b hi hj _ _ => ?_, fun b u e _ => ?_, st, av, fun _ b e => ?_⟩, eA⟩
  · unfold L2.start startD
    rw [List.length_append, List.length_append, List.length_map, List.length_map, List.length_replicate, List.length_replicate, List.length_cons, List.length_cons, r.length]
  · rw [eA]
    cases i with
    | zero => exact (hi (by simp)).elim
    | succ i =>
      have e2 := start_get e
      obtain ⟨v, ev, rv⟩ := r.get (i := i) (d := d) (by simpa using e2)
      exact ⟨v, get_start (by simpa using ev), rv⟩
  · have hi : i = 0 := by simpa using hi
    subst hi
    refine ⟨.obj C [], a, rfl, rfl, if_pos rfl, na, ns, dx, [], hx, by rw [RepF]⟩
  · have hi : i = 0 := by simpa using hi
    have hj : j = 0 := by simpa using hj
    rw [hi, hj]
  · by_cases z : b = a
    · rw [if_pos z] at e; cases e
    · rw [if_neg z] at e; exact .of e
  · cases e
    rfl
theorem dfnI {N ps : List Str} {k : Nat} {sp : FSp} {m : SM} {O' : List Nat} (F : FunD K x qual params body scope dvs kws f fd) (Sc : FnScope N ps scope) (h0 : 0 ∈ O')
    (hb : ∀ (cdv : Value) (A : Around) (outer : List Env) (s : Shared) (H : Hp) (E : XK), Room k (A.deeper (envOfC qual scope s.heap.objs.size f cdv)) → VSs (cxOf (CX P w) P w K mg base N qual scope f cdv A outer s H E) (EU H E) [0] O' [] body m)
    (hm : ∀ ds n Q xq, ds.length + 1 = ps.length → sp.run ds n Q xq → m xq { nx := fun s' n' => ∃ fs, s'[0]? = some (some (.obj C fs)) ∧ Q (.obj C fs) n', rt := fun _ _ => False } (startD N (.obj C [] :: ds)) n) : FnOk P w K mg base (CX P w) (k + 1) f fd ps (liftI K C ps.length sp) := by
  refine F.ok Sc (fun vs H Q E h => ?_) (fun cdv A outer s H vs Q E hr h => ?_)
  · obtain ⟨aS, A0, ds, n, xq, a, dx, ws, ev, hl, hx, na, ns, r, _⟩ := h
    rw [ev, List.length_cons, r.length, hl]
  · obtain ⟨aS, A0, ds, n, xq, a, dx, ws, ev, hl, hx, na, ns, r, st, av, L, q⟩ := h
    subst ev
    obtain ⟨t, p, ft⟩ := hb cdv A outer s H E hr
    obtain ⟨S, eA⟩ := SR.startI (N := N) hx na ns r st av
    refine ⟨t, p, ft aS ⟨A0, some a⟩ _ _ H _ n xq _ _ S L.eu ?_ (hm ds n _ xq hl q)⟩
    refine ⟨fun σ' H' s' n' S' q' => ?_, fun v H' d n' kp st' r' q' => q'.elim, fun _ _ _ _ _ z => z.elim, fun _ _ _ _ _ z => z.elim⟩
    obtain ⟨fs, e, fs', e', q'⟩ := q'
    cases e'
    obtain ⟨d1, a1, z1, z2, z3, z4, z5, z6⟩ := S'.ow 0 h0
    rw [e] at z1
    cases z1
    have ea := S'.pn h0 a rfl
    rw [z2] at ea
    cases ea
    obtain ⟨dx', ys, hx', rf⟩ := z6
    refine q' H' dx' ys (fun b u hb nb nx => S'.fr b u ?_ nb) S'.st hx' (RepF.mono (sub_le fun b z => ?_) _ _ rf)
    · rw [if_neg nx]
      exact hb
    · rcases z with z | z
      · exact av_nil b z
      · exact .inr (.inr ⟨0, h0, by rw [z]; exact z2⟩)
end
def eMake (len : Nat) (sp : FSp) (dds : List D) (m : EM (List D)) : EM D := fun xq s n Q => m xq s n fun ds n1 => (ds ++ dds).length + 1 = len ∧ sp.run (ds ++ dds) n1 (fun d n2 => (∃ C fs, d = .obj C fs) ∧ Q d n2) xq
section
variable {X : Cx} {E : XK} {O : List Nat} {e : Expr} {es : List Expr} {ml : EM (List D)} {pos p : Pos} {x : Str} {f : Addr} {C : Str} {fd : FuncData} {ps : List Str} {k : Nat} {sp : FSp} {dds : List D} {dvs : List V} {us : List Value}
theorem SR.make {K : PySem.W.Frag} {aS a dx : Addr} {A0 : A0T} {H0 H : Hp} {σ : L2.St} {s : Ev} {n len : Nat} {ds : List D} {vs : List V} {xq : XQ} {Q : VK} (S : SR K aS O A0 H0 σ H s n) (L : LX K E aS A0 H0 xq) (hl : ds.length + 1 = len) (r : RepL K aS H (AV aS A0 O σ) ds vs) (ha : H a = none) (hdx : H dx = none) (hne : dx ≠ a)
    (q : sp.run ds n (fun d n' => ∃ fs, d = .obj C fs ∧ ∀ H', KpS aS H H' → StA K aS H' n' → Own K aS H' (fun b => AV aS A0 O σ b ∨ b = a) a d → Q .non H') xq) : liftI K C len sp (.ref a :: vs) (upd (upd H dx (.own a)) a (.ins (He.ga K C) dx [])) Q E := by
  have eA : AV aS (AV aS A0 O σ) [] [] = AV aS A0 O σ := AV.of AV.st
  have ha1 : upd H dx (.own a) a = none := by rw [upd_ne (Ne.symm hne)]; exact ha
  have na : a ≠ aS := fun z => S.new ha (.inr (.inl z))
  have st1 : StA K aS (upd H dx (.own a)) n := S.st.upd hdx
  have r1 : RepL K aS (upd H dx (.own a)) (AV aS A0 O σ) ds vs := r.kp (KpS.upd hdx) S.st AV.st
  have up : ∀ b u, H b = some u → upd (upd H dx (.own a)) a (.ins (He.ga K C) dx []) b = some u := fun b u e => by rw [upd_ne (ne_of_none e ha), upd_ne (ne_of_none e hdx)]; exact e
  refine ⟨aS, AV aS A0 O σ, ds, n, xq, a, dx, vs, rfl, hl, upd_same, S.new ha, na, ?_, st1.upd ha1, fun b hb => ?_, LX.base (L.call S) (fun b u e _ => ?_), sp.mn _ _ _ _ _ (fun d n' w => ?_) q⟩
  · rw [eA]
    exact RepL.mono (sub_new ha1) _ _ r1
  · obtain ⟨u, e⟩ := S.cn.dom b hb
    exact ⟨u, up _ _ e⟩
  · refine .of ?_
    show (if b = a then none else upd (upd H dx (.own a)) a (.ins (He.ga K C) dx []) b) = some u
    rw [if_neg (ne_of_none e ha)]
    exact up b u e
  · obtain ⟨fs, ed, w⟩ := w
    subst ed
    refine ⟨fs, rfl, fun H' dx' ys kp st hx rf => w H' (fun b u e nb => kp b u (up b u e) nb (ne_of_none e ha)) st ⟨dx', ys, hx, ?_⟩⟩
    rw [eA] at rf
    exact rf
theorem vf_make (tk : TK X E) (M : Mk X.K (He.ga X.K C) f) (F : FnOk X.prog X.w X.K X.mg X.base (CX X.prog X.w) k f fd ps (liftI X.K C ps.length sp)) (hr : Room (k + 1) X.A) (hg : Gl X x) (hm : X.mg x = some (.ref (He.ga X.K C))) (hb : Binds X.K fd ps us) (hd : Vals dvs us)
    (hdd : ∀ aS H A, RepL X.K aS H A dds dvs) (hsp : ∀ ds n Q xq, sp.run ds n Q xq → sp.run ds n (fun d n' => (∃ fs, d = .obj C fs) ∧ Q d n') xq) (ha : VA Rep X E O (e :: es) ml) (hdb : (x == ("__debug__" : Str)) = false := by decide)
    (he : starEach (e :: es) X.env = (false, eval e X.env) :: starEach es X.env := by rfl) (hpl : (backTo pos (starEach es X.env)).any (·.1) = false := by rfl) : VF X E O (.Call (.Name x p) (e :: es) [] pos) (eMake ps.length sp dds ml) := by
  obtain ⟨mn, t, pa, ft⟩ := ha
  refine ⟨fun xq s n Q Q' hq w => mn _ _ _ _ _ (fun ds n1 w => ⟨w.1, sp.mn _ _ _ _ _ (fun d n2 w => ⟨w.1, hq _ _ w.2⟩) w.2⟩) w, _, pe_make M F hr hg hm  hb hd (passes_call tk fun _ _ _ _ h => h) pa hdb he hpl, fun aS A0 H0 σ H s n xq Q S L hm => ?_⟩
  refine ft aS A0 H0 σ H s n xq _ S L (mn _ _ _ _ _ (fun ds n1 q vs H1 k1 st1 r1 => ?_) hm)
  intro a dx ha hdx hne
  have S1 := S.step k1 st1
  refine S1.make L q.1 ((RL.repL r1).app (hdd aS H1 _)) ha hdx hne (sp.mn _ _ _ _ _ (fun d n' w => ?_) (hsp _ _ _ _ q.2))
  obtain ⟨⟨fs, ed⟩, _, w⟩ := w
  refine ⟨fs, ed, fun H' kp st o => ⟨rfl, w a H' ?_ (k1.trans kp) st o⟩⟩
  refine Option.eq_none_iff_forall_ne_some.mpr fun u z => ?_
  exact (KpS.gone k1 ha z (fun y => S1.new ha (.inr (.inl y)))).elim
end
end DL
namespace DL
open PySem PySem.Spec PyProof.Rows L2
variable [TabC]
section
variable {K : PySem.W.Frag} {aS a p : Addr} {H H' H0 : Hp} {A0 : A0T} {O : List Nat} {σ : L2.St} {s : Ev} {n n' i : Nat} {d : D}
theorem AV.own (hi : i ∉ O) (hl : i < σ.length) : AV aS A0 (i :: O) (σ.set i (some (.ref a))) = AV aS (fun b => A0 b ∨ b = a) O σ := by
  rw [AV.plus]
  funext b
  refine propext ⟨fun z => ?_, fun z => ?_⟩
  · rcases z with z | z | ⟨j, hj, e⟩
    · exact .inl (.inl z)
    · exact .inl (.inr (.inl z))
    · by_cases hji : j = i
      · subst hji
        rw [List.getElem?_set_self hl] at e
        cases e
        exact .inr rfl
      · rw [set_other hji] at e
        exact .inl (.inr (.inr ⟨j, (List.mem_cons.mp hj).resolve_left hji, e⟩))
  · rcases z with (z | z | ⟨j, hj, e⟩) | z
    · exact .inl z
    · exact .inr (.inl z)
    · refine .inr (.inr ⟨j, List.mem_cons_of_mem _ hj, ?_⟩)
      rw [set_other (show j ≠ i from fun z => hi (z ▸ hj))]
      exact e
    · refine .inr (.inr ⟨i, List.mem_cons_self, ?_⟩)
      rw [z]
      exact List.getElem?_set_self hl
theorem SR.sub (S : SR K aS O A0 H0 σ H s n) (ha : H a = none) (k : KpS aS H H') : Sub K H H' (AV aS A0 O σ) (fun b => AV aS A0 O σ b ∨ b = a) := by
  obtain ⟨ys, hs⟩ := S.st.lst
  have ne : ∀ b, ¬ AV aS A0 O σ b → b ≠ aS := fun b h e => h (.inr (.inl e))
  refine ⟨fun b xs h q => ⟨fun z => z.elim h (ne_of_none q ha), k _ _ q (ne b h)⟩, fun b xs q => TpA.kp k hs q, fun b ys h q => ⟨fun z => z.elim h ?_, Rd.kp k (ne b h) q⟩, fun b ys h q => ⟨fun z => z.elim h ?_, RdM.kp k (ne b h) q⟩, fun b C dx ys h q => ⟨fun z => z.elim h (ne_of_none q ha), k _ _ q (ne b h)⟩, fun b u hu h q => ⟨fun z => z.elim h (ne_of_none q ha), k.xo hu q (ne b h)⟩⟩
  all_goals
    rcases q with q | ⟨_, q⟩
    · exact ne_of_none q ha
    · exact ne_of_none q ha
/-- behind an expression that made p, p kept for oneself -/
theorem SR.stepA (S : SR K aS O A0 H0 σ H s n) (k : KpS aS H H') (t : StA K aS H' n') (hp : H p = none) (ho : ∃ o, H' p = some o) : SR K aS O ⟨fun b => A0 b ∨ b = p, A0.z⟩ H0 σ H' s n' := by
  refine ⟨S.len, fun j d e hj => ?_, fun j hj => ?_, S.ds, S.fr.trans k, t, fun b hb => ?_, S.pn⟩
  · rw [AV.plus]
    obtain ⟨v, ev, r⟩ := S.sh j d e hj
    exact ⟨v, ev, Rep.mono (S.sub hp k) _ _ r⟩
  · rw [AV.plus]
    obtain ⟨d, b, e1, e2, e3, e4, e5, e6⟩ := S.ow j hj
    refine ⟨d, b, e1, e2, e3, fun z => z.elim e4 fun z => S.new hp (.inr (.inr ⟨j, hj, z ▸ e2⟩)), e5, ?_⟩
    cases d with
    | lst ds => obtain ⟨xs, e, q⟩ := e6; exact ⟨xs, k _ _ e e5, RepL.mono (S.sub hp k) _ _ q⟩
    | dic ds => obtain ⟨xs, e, q⟩ := e6; exact ⟨xs, k _ _ e e5, RepK.mono (S.sub hp k) _ _ q⟩
    | dmx ds => obtain ⟨xs, e, q⟩ := e6; exact ⟨xs, k _ _ e e5, RepP.mono (S.sub hp k) _ _ q⟩
    | obj C ds => obtain ⟨dx, xs, e, q⟩ := e6; exact ⟨dx, xs, k _ _ e e5, RepF.mono (S.sub hp k) _ _ q⟩
    | _ => exact e6.elim
  · rcases hb with hb | hb
    · exact (S.step k t).av b hb
    · exact hb ▸ ho
theorem Own.there {A : AS} (h : Own K aS H A a d) : ∃ o, H a = some o := by
  cases d with
  | lst ds => obtain ⟨xs, e, q⟩ := h; exact ⟨_, e⟩
  | dic ds => obtain ⟨xs, e, q⟩ := h; exact ⟨_, e⟩
  | dmx ds => obtain ⟨xs, e, q⟩ := h; exact ⟨_, e⟩
  | obj C ds => obtain ⟨dx, xs, e, q⟩ := h; exact ⟨_, e⟩
  | _ => exact h.elim
end
section
variable {X : Cx} {E : XK} {O OL : List Nat} {a b c e : Expr} {ma mb mc m : EM D} {pos : Pos} {i j : Nat} {x y : Str}
/-! two targets -/
def sPar (i j : Nat) (ma mb : EM D) : SM := fun xq de s n => ma xq s n fun d n1 => mb xq s n1 fun d' n2 => de.nx ((s.set i (some d)).set j (some d')) n2
theorem vs_par {px py pt : Pos} {kt k2 pt2} (hi : i ∉ O) (hj : j ∉ O) (hc : X.calm = true) (hN : X.N.Nodup) (hNi : X.N[i]? = some x) (hNj : X.N[j]? = some y) (hij : i ≠ j) (hx : X.env.scope.names.lookup x = some .local) (hy : X.env.scope.names.lookup y = some .local)
    (ha : VE X E O a ma) (hb : VE X E O b mb) (hw : swappedStores [.Tuple [.Name x px, .Name y py] kt pt] (.Tuple [a, b] k2 pt2) X.env = pure (some [x, y]))
    (hs : swapsWithSole [.Tuple [.Name x px, .Name y py] kt pt] (.Tuple [a, b] k2 pt2) pos.line X.env = pure false := by rfl) (hs1 : starEach [a, b] X.env = (false, eval a X.env) :: starEach [b] X.env := by rfl) (hs2 : starEach [b] X.env = (false, eval b X.env) :: starEach [] X.env := by rfl) :
    VS X E O O OL (.Assign [.Tuple [.Name x px, .Name y py] kt pt] (.Tuple [a, b] k2 pt2) pos) (sPar i j ma mb) := by
  obtain ⟨mna, ta, pa, fa⟩ := ha
  obtain ⟨mnb, tb, pb, fb⟩ := hb
  refine ⟨_, ps_par hc hN hNi hNj hij hx hy (pa_cons pa (pa_cons pb pa_nil hs2) hs1) hw hs, fun aS A0 H0 σ H s n xq de De S L k h => ?_⟩
  refine fa aS A0 H0 σ H s n xq _ S L (mna _ _ _ _ _ (fun d1 n1 q v1 H1 k1 st1 r1 => ?_) h)
  refine fb aS A0 H0 σ H1 s n1 xq _ (S.step k1 st1) L (mnb _ _ _ _ _ (fun d2 n2 q2 v2 H2 k2 st2 r2 => ?_) q)
  have S1 := (S.step (k1.trans k2) st2).set hi (r1.kp k2 st1 AV.st)
  exact ⟨v1, v2, rfl, k.nx _ _ _ _ (S1.set hj (by rw [AV.set hi]; exact r2)) q2⟩
theorem vs_parFF {px py pt : Pos} {kt k2 pt2} (hi : i ∉ O) (hj : j ∉ O) (hi0 : i ≠ 0) (hj0 : j ≠ 0) (hc : X.calm = true) (hN : X.N.Nodup) (hNi : X.N[i]? = some x) (hNj : X.N[j]? = some y) (hij : i ≠ j) (hx : X.env.scope.names.lookup x = some .local) (hy : X.env.scope.names.lookup y = some .local)
    (ha : VF X E O a ma) (hb : VF X E O b mb) (hw : swappedStores [.Tuple [.Name x px, .Name y py] kt pt] (.Tuple [a, b] k2 pt2) X.env = pure (some [x, y]))
    (hs : swapsWithSole [.Tuple [.Name x px, .Name y py] kt pt] (.Tuple [a, b] k2 pt2) pos.line X.env = pure false := by rfl) (hs1 : starEach [a, b] X.env = (false, eval a X.env) :: starEach [b] X.env := by rfl) (hs2 : starEach [b] X.env = (false, eval b X.env) :: starEach [] X.env := by rfl) :
    VS X E O (j :: i :: O) OL (.Assign [.Tuple [.Name x px, .Name y py] kt pt] (.Tuple [a, b] k2 pt2) pos) (fun xq de s n => i < s.length ∧ j < s.length ∧ sPar i j ma mb (fun _ _ => False) de s n) := by
  obtain ⟨mna, ta, pa, fa⟩ := ha
  obtain ⟨mnb, tb, pb, fb⟩ := hb
  refine ⟨_, ps_par hc hN hNi hNj hij hx hy (pa_cons pa (pa_cons pb pa_nil hs2) hs1) hw hs, fun aS A0 H0 σ H s n xq de De S L k h => ?_⟩
  obtain ⟨hl1, hl2, h⟩ := h
  have LF : ∀ A1, LX X.K E aS A1 H0 (fun _ _ => False) := fun _ _ _ _ _ _ _ _ _ z => z.elim
  refine fa aS A0 H0 σ H s n _ _ S (LF _) (mna _ _ _ _ _ (fun d1 n1 q p1 H1 z1 k1 st1 o1 => ?_) h)
  have S1 := S.stepA k1 st1 z1 o1.there
  refine fb aS _ H0 σ H1 s n1 _ _ S1 (LF _) (mnb _ _ _ _ _ (fun d2 n2 q2 p2 H2 z2 k2 st2 o2 => ?_) q)
  have Sa := S.own hi hi0 hl1 z1 k1 st1 o1
  have hlσ : i < σ.length := by rw [S.len]; exact hl1
  refine ⟨_, _, rfl, k.nx _ _ _ _ (Sa.own (fun z => (List.mem_cons.mp z).elim (fun z => hij z.symm) hj) hj0 (by rw [List.length_set]; exact hl2) z2 k2 st2 ?_) q2⟩
  rw [AV.own hi hlσ]
  exact o2
/-! f.append(xs.pop(e)) -/
theorem RepL.erase {K : PySem.W.Frag} {aS : Addr} {H : Hp} {A : AS} : ∀ {ds : List D} {vs : List V} (k : Nat), RepL K aS H A ds vs → RepL K aS H A (ds.eraseIdx k) (vs.eraseIdx k)
  | [], _, _, h => by rw [RepL] at h; rw [h]; exact RepL.nil
  | d :: ds, vs, 0, h => by
    rw [RepL] at h
    obtain ⟨v, vr, e, r, q⟩ := h
    rw [e]
    exact q
  | d :: ds, vs, k + 1, h => by
    rw [RepL] at h
    obtain ⟨v, vr, e, r, q⟩ := h
    rw [e]
    exact RepL.cons r (RepL.erase k q)
theorem seq_nat {k n : Nat} (h : k < n) : seqIndex? (k : Int) n = some k := by
  have e : ixN n (k : Int) = some k := by
    unfold ixN
    rw [if_pos (by omega), if_pos (by omega)]
    simp
  exact (ixN_seq e).1
theorem vs_appPop {p1 p2 ap cp ap2 cp2 : Pos} (hij : j ≠ i) (hi : i ∈ O) (hj : j ∈ O) (hNi : X.N[i]? = some x) (hvi : Vis X.env.scope x) (hNj : X.N[j]? = some y) (hvj : Vis X.env.scope y) (h : VE X E O e m)
    (hpe : ∀ {to tp : TE} {t : TA}, PE X (.Name y p1) to → PE X (.Name x p2) tp → PA X [e] t → PE X (.Call (.Attribute (.Name y p1) "append" ap) [.Call (.Attribute (.Name x p2) "pop" ap2) [e] [] cp2] [] cp) (tBM X.K "list" rAppend to (tCons (tBM X.K "list" rPopAt tp t) tNil)) := by
      intro to tp t h1 h2 h3; exact pe_bm PySem.F.plainAttrs_list PySem.F.slot_list_append PySem.F.type_list_append mt_append h1 (pa_cons (pe_bm PySem.F.plainAttrs_list PySem.F.slot_list_pop PySem.F.type_list_pop mt_popAt h2 h3) pa_nil))
    (hs : swapsWith (.Call (.Attribute (.Name y p1) "append" ap) [.Call (.Attribute (.Name x p2) "pop" ap2) [e] [] cp2] [] cp) none pos.line X.env = pure false := by rfl) (hst : starEach [e] X.env = (false, eval e X.env) :: starEach [] X.env := by rfl)
    (hd : (x == ("__debug__" : Str)) = false := by decide) (hcd : (x == ("__classdict__" : Str)) = false := by decide) (hd2 : (y == ("__debug__" : Str)) = false := by decide) (hcd2 : (y == ("__classdict__" : Str)) = false := by decide) :
    VS X E O O OL (.Expr (.Call (.Attribute (.Name y p1) "append" ap) [.Call (.Attribute (.Name x p2) "pop" ap2) [e] [] cp2] [] cp) pos) (sAppPop j i m) := by
  obtain ⟨mn, t, p, f⟩ := h
  refine ⟨_, ps_expr (hpe (pe_var hNj hvj hd2 hcd2) (pe_var hNi hvi hd hcd) (pa_cons p pa_nil hst)) hs, fun aS A0 H0 σ H s n xq de De S L k h => ?_⟩
  obtain ⟨fs, ds, ef, es, h⟩ := h
  obtain ⟨af, xf, z1, z2, z3, z4⟩ := own_lst S hj ef
  obtain ⟨a, xs, y1, y2, y3, y4⟩ := own_lst S hi es
  refine ⟨_, z1, .inl ⟨rfl, _, SqL.of z3⟩, _, y1, .inl ⟨rfl, _, SqL.of y3⟩, f aS A0 H0 σ H s n xq _ S L (mn _ _ _ _ _ (fun d n' q v H' kp st r => ?_) h)⟩
  obtain ⟨kk, d', ed, hd', hl, hlf, q⟩ := q
  subst ed
  simp only [Rep] at r
  subst r
  have S' := S.step kp st
  have y3' := kp _ _ y3 y2
  have y4' := y4.kp kp S.st AV.st
  have z3' := kp _ _ z3 z2
  have z4' := z4.kp kp S.st AV.st
  obtain ⟨v, hv, rv⟩ := y4'.get hd'
  have hk : kk < xs.length := (List.getElem?_eq_some_iff.mp hv).1
  have hk2 : kk < ds.length := (List.getElem?_eq_some_iff.mp hd').1
  have naf : af ≠ a := fun z => hij (S.ds j i a hj hi (z ▸ z1) y1)
  refine ⟨a, xs, (kk : Int), kk, v, rfl, rfl, y3', by omega, by unfold LIM at hl; omega, seq_nat hk, hv, ?_⟩
  have S2 := S'.mutL hi y1 y3' (y4'.erase kk)
  have hA : AV aS A0 O σ a := .inr (.inr ⟨i, hi, y1⟩)
  have sub := sub_poke (K := X.K) (o' := .lst (xs.eraseIdx kk)) hA y3' (fun _ z => nomatch z)
  have z3'' : upd H' a (.lst (xs.eraseIdx kk)) af = some (.lst xf) := by rw [upd_ne naf]; exact z3'
  refine ⟨af, xf, v, rfl, rfl, z3'', by rw [z4.length]; exact lim_lt hlf, k.nx _ _ _ _ (S2.mutL hj z1 z3'' ?_) q⟩
  exact (RepL.mono sub _ _ z4').app (RepL.cons (Rep.mono sub _ _ rv) RepL.nil)
/-! chains of two comparisons -/
def eChainT (f g : D → D → Option D) (ma mb mc : EM D) : EM Bool := fun xq s n Q => ma xq s n fun x n1 => mb xq s n1 fun y n2 => ∃ k, f x y = some (.bl k) ∧ if k = true then mc xq s n2 fun z n3 => ∃ b, g y z = some (.bl b) ∧ Q b n3 else Q false n2
end
end DL
namespace DL
open PySem PySem.Spec PyProof.Rows L2
variable [TabC]
/-! ### chains, is None, minus -/
section
variable {X : Cx} {E : XK} {O OL : List Nat} {a b c e : Expr} {ma mb mc m : EM D} {pos : Pos}
theorem mn_chainT {f g : D → D → Option D} (h1 : Mn ma) (h2 : Mn mb) (h3 : Mn mc) : Mn (eChainT f g ma mb mc) := fun xq s n Q Q' hq w => h1 _ _ _ _ _ (fun d1 n1 w => h2 _ _ _ _ _ (fun d2 n2 ⟨k, e, w⟩ => ⟨k, e, by
  cases k with
  | true => exact h3 _ _ _ _ _ (fun d3 n3 ⟨d, e, q⟩ => ⟨d, e, hq _ _ q⟩) w
  | false => exact hq _ _ w⟩) w) w
theorem vt_chain {op op' : CmpOp} {f g : D → D → Option D} (h : OpD X (compareOp op) f) (h' : OpD X (compareOp op') g) (ha : VB X E O a ma) (hb : VB X E O b mb) (hc : VB X E O c mc) (hm : lastMarks [op, op'] [b, c] = false := by rfl) : VT X E O (.Compare a [op, op'] [b, c] pos) (eChainT f g ma mb mc) := by
  obtain ⟨mna, ta, pa, fa⟩ := ha
  obtain ⟨mnb, tb, pb, fb⟩ := hb
  obtain ⟨mnc, tc, pc, fc⟩ := hc
  obtain ⟨r, ho, hr⟩ := h
  obtain ⟨r', ho', hr'⟩ := h'
  refine ⟨mn_chainT mna mnb mnc, _, pt_chain ho ho' pa pb pc hm, fun aS A0 H0 σ H s n xq Q S L hm => ?_⟩
  refine fa aS A0 H0 σ H s n xq _ S L (mna _ _ _ _ _ (fun d1 n1 q v1 H1 k1 st1 r1 => ?_) hm)
  refine fb aS A0 H0 σ H1 s n1 xq _ (S.step k1 st1) L (mnb _ _ _ _ _ (fun d2 n2 q2 v2 H2 k2 st2 r2 => ?_) q)
  obtain ⟨k, e, q2⟩ := q2
  refine hr aS H2 _ n2 d1 d2 _ v1 v2 _ (S.step (k1.trans k2) st2).cn (r1.kp k2 st1 AV.st) r2 e fun v H3 k3 st3 r3 => ?_
  rw [Rep] at r3
  refine ⟨k, r3, ?_⟩
  cases k with
  | false => rw [if_neg (by decide)] at q2 ⊢; exact ⟨false, rfl, q2 H3 ((k1.trans k2).trans k3) st3⟩
  | true =>
    rw [if_pos rfl] at q2 ⊢
    refine fc aS A0 H0 σ H3 s n2 xq _ (S.step ((k1.trans k2).trans k3) st3) L (mnc _ _ _ _ _ (fun d3 n3 q3 v3 H4 k4 st4 r4 => ?_) q2)
    obtain ⟨d, e', q3⟩ := q3
    refine hr' aS H4 _ n3 d2 d3 _ v2 v3 _ (S.step (((k1.trans k2).trans k3).trans k4) st4).cn ((r2.kp k3 st2 AV.st).kp k4 st3 AV.st) r4 e' fun v H' k st r => ?_
    rw [Rep] at r
    exact ⟨d, r, q3 H' ((((k1.trans k2).trans k3).trans k4).trans k) st⟩
/-- is None -/
def noneD : D → Bool
  | .non => true
  | _ => false
def rawD : D → Bool
  | .raw _ => true
  | _ => false
def dIsN (x y : D) : Option D := match y with | .non => if rawD x = true then none else some (.bl (noneD x)) | _ => none
theorem none_rep {K : PySem.W.Frag} {aS : Addr} {H : Hp} {A : AS} {d : D} {v : V} (h : rawD d = false) (r : RepB K aS H A d v) : decide (v = .non) = noneD d := by
  cases d with
  | non => rw [repB_non r]; rfl
  | bl b => rw [repB_bl r]; rfl
  | int b => rw [repB_int r]; rfl
  | str b => rw [repB_str r]; rfl
  | raw b => cases h
  | st => have r : Rep K aS H A .st v := r; rw [Rep] at r; rw [r]; rfl
  | tup b => obtain ⟨a, xs, e, _⟩ := repB_tup r; rw [e]; rfl
  | lst b => obtain ⟨a, xs, e, _⟩ := repB_lst r; rw [e]; rfl
  | dic b => obtain ⟨a, xs, e, _⟩ := repB_dic r; rw [e]; rfl
  | dmx b => obtain ⟨a, xs, e, _⟩ := r; rw [e]; rfl
  | obj C b => obtain ⟨a, dx, xs, e, _⟩ := r; rw [e]; rfl
  | exc C b => have r : Rep K aS H A (.exc C b) v := r; rw [Rep] at r; obtain ⟨a, e, _⟩ := r; rw [e]; rfl
theorem od_isN : OpD X (compareOp .Is) dIsN := by
  refine ⟨_, op_isN, fun aS H A n d1 d2 d v1 v2 Q c r1 r2 e w => ?_⟩
  unfold dIsN at e
  split at e
  · split at e
    · cases e
    · next h =>
      cases e
      refine ⟨repB_non r2, ?_⟩
      rw [none_rep (by simpa using h) r1]
      exact w _ H KpS.refl c.st rep_bl
  · cases e
def eNeg (m : EM D) : EM D := fun xq s n Q => m xq s n fun d n' => ∃ i : Int, d = .int i ∧ Q (.int (-i)) n'
theorem ve_neg (h : VB X E O e m) : VE X E O (.UnaryOp .USub e pos) (eNeg m) := by
  obtain ⟨mn, t, p, f⟩ := h
  refine ⟨fun xq s n Q Q' hq w => mn _ _ _ _ _ (fun d n' ⟨i, e, q⟩ => ⟨i, e, hq _ _ q⟩) w, _, pe_un un_neg p, fun aS A0 H0 σ H s n xq Q S L hm => f aS A0 H0 σ H s n xq _ S L (mn _ _ _ _ _ (fun d n' q v H' kp st r => ?_) hm)⟩
  obtain ⟨i, e, q⟩ := q
  subst e
  exact ⟨i, repB_int r, q _ H' kp st rep_int⟩
end
/-! ### a dict that is walked is locked meanwhile -/
section
variable {K : PySem.W.Frag} {aS a b : Addr} {H H' H0 : Hp} {A : AS} {A0 : A0T} {O : List Nat} {σ σ' : L2.St} {s s' : Ev} {n n' : Nat} {ys : List (Key × V)} {o : Obj}
theorem Own.mv {d : D} (S : Sub K H H' A A) (h1 : ∀ u, H a = some u → (∀ o v, u ≠ .frz o v) → H' a = some u) (r : Own K aS H A a d) : Own K aS H' A a d := by
  cases d with
  | lst ds => obtain ⟨xs, e, q⟩ := r; exact ⟨xs, h1 _ e (fun _ _ z => nomatch z), RepL.mono S _ _ q⟩
  | dic ds => obtain ⟨xs, e, q⟩ := r; exact ⟨xs, h1 _ e (fun _ _ z => nomatch z), RepK.mono S _ _ q⟩
  | dmx ds => obtain ⟨xs, e, q⟩ := r; exact ⟨xs, h1 _ e (fun _ _ z => by unfold MD.MixO at z; cases z), RepP.mono S _ _ q⟩
  | obj C ds => obtain ⟨dx, xs, e, q⟩ := r; exact ⟨dx, xs, h1 _ e (fun _ _ z => nomatch z), RepF.mono S _ _ q⟩
  | _ => exact r
end
/-- a path: a name, a field of a path, a place of a tuple -/
def Plain0 (u : HO) : Prop := (∀ C dx fs, u ≠ .ins C dx fs) ∧ (∀ xs, u ≠ .tup xs) ∧ ∀ o v, u ≠ .frz o v
def VP (X : Cx) (O : List Nat) (e : Expr) (p : Ev → Option D) : Prop := ∃ t, PE X e t ∧ ∃ pv : L2.St → Hp → V → Prop, (∀ σ H v (Q : VK), pv σ H v → Q v H → t σ H Q) ∧
  (∀ (aS : Addr) (A0 : A0T) (H0 : Hp) (σ : L2.St) (H : Hp) (s : Ev) (n : Nat) (d : D), SR X.K aS O A0 H0 σ H s n → p s = some d → ∃ v, pv σ H v ∧ Rep X.K aS H (AV aS A0 O σ) d v) ∧
  ∀ σ H b o u v, H b = some u → Plain0 u → pv σ H v → pv σ (upd H b (.frz o u)) v
section
variable {X : Cx} {E : XK} {O OL vs : List Nat} {e tg : Expr} {p : Ev → Option D} {pos : Pos} {i : Nat} {g : DG} {mb : SM} {me mk : EM D} {mt : EM Bool}
theorem vp_var {x : Str} (hi : i ∉ O) (hN : X.N[i]? = some x) (hv : Vis X.env.scope x) (hd : (x == ("__debug__" : Str)) = false := by decide) (hcd : (x == ("__classdict__" : Str)) = false := by decide) : VP X O (.Name x pos) (fun s => (s[i]?).join) := by
  refine ⟨_, pe_var hN hv hd hcd, fun σ _ v => σ[i]? = some (some v), fun σ H v Q e q => ⟨v, e, q⟩, fun aS A0 H0 σ H s n d S e => ?_, fun _ _ _ _ _ _ _ _ h => h⟩
  have e : (s[i]?).join = some d := e
  have es : s[i]? = some (some d) := by
    cases h : s[i]? with
    | none => rw [h] at e; cases e
    | some o => rw [h] at e; exact congrArg some e
  exact S.sh i d es hi
theorem atI_nat {α : Type} (xs : List α) (k : Nat) : L2.atI xs (k : Int) = xs[k]? := by
  unfold L2.atI ixN
  by_cases h : k < xs.length
  · rw [if_pos (by omega), if_pos (by omega)]
    simp
  · rw [if_pos (by omega), if_neg (by omega)]
    simp at h
    simp [h]
end
end DL
namespace DL
open PySem PySem.Spec PyProof.Rows L2
variable [TabC]
/-! ### dicts by data -/
def putD (kvs : List (Key × D)) (k : Key) (v : D) : List (Key × D) :=
  if (lookK kvs k).isSome = true then kvs.map (fun p => (p.1, if p.1 = k then v else p.2)) else kvs.concat (k, v)
section
variable {K : PySem.W.Frag} {aS a b : Addr} {H H' H0 : Hp} {A : AS}
theorem RepK.nil : RepK K aS H A [] [] := by rw [RepK]
theorem RepK.cons {k : Key} {d : D} {v : V} {ds : List (Key × D)} {vs : List (Key × V)} (r : Rep K aS H A d v) (q : RepK K aS H A ds vs) : RepK K aS H A ((k, d) :: ds) ((k, v) :: vs) := by
  rw [RepK]
  exact ⟨v, vs, rfl, r, q⟩
theorem RepK.new (k : Key) {ds : List (Key × D)} {vs : List (Key × V)} (h : RepK K aS H A ds vs) : (vs.any fun kv => decide (kv.1 = k)) = (lookK ds k).isSome := by
  rw [valV_any]
  rcases h.val k with ⟨e1, e2⟩ | ⟨_, _, e1, e2, _⟩ <;> rw [e1, e2] <;> rfl
theorem RepK.swap {k : Key} {d : D} {v : V} (r : Rep K aS H A d v) : ∀ {ds : List (Key × D)} {vs : List (Key × V)}, RepK K aS H A ds vs → RepK K aS H A (ds.map fun p => (p.1, if p.1 = k then d else p.2)) (vs.map fun kv => if kv.1 = k then (kv.1, v) else kv)
  | [], vs, h => by rw [RepK] at h; rw [h]; exact RepK.nil
  | (k', d') :: ds, vs, h => by
    rw [RepK] at h
    obtain ⟨v', vr, e, r', q⟩ := h
    rw [e, List.map_cons, List.map_cons]
    by_cases z : k' = k
    · rw [if_pos z, if_pos z]; exact RepK.cons r (RepK.swap r q)
    · rw [if_neg z, if_neg z]; exact RepK.cons r' (RepK.swap r q)
theorem RepK.app {es : List (Key × D)} {ws : List (Key × V)} (r : RepK K aS H A es ws) : ∀ {ds : List (Key × D)} {vs : List (Key × V)}, RepK K aS H A ds vs → RepK K aS H A (ds ++ es) (vs ++ ws)
  | [], vs, h => by rw [RepK] at h; rw [h]; exact r
  | (k', d') :: ds, vs, h => by
    rw [RepK] at h
    obtain ⟨v', vr, e, r', q⟩ := h
    rw [e]
    exact RepK.cons r' (RepK.app r q)
theorem RepK.put {ds : List (Key × D)} {vs : List (Key × V)} (k : Key) {d : D} {v : V} (h : RepK K aS H A ds vs) (r : Rep K aS H A d v) : RepK K aS H A (putD ds k d) (putK vs k v) := by
  unfold putD putK
  rw [h.new k]
  split
  · exact RepK.swap r h
  · rw [List.concat_eq_append]
    exact RepK.app (RepK.cons r RepK.nil) h
theorem putD_len (kvs : List (Key × D)) (k : Key) (d : D) : (putD kvs k d).length ≤ kvs.length + 1 := by
  unfold putD
  split
  · rw [List.length_map]; omega
  · rw [List.length_concat]; exact Nat.le_refl _
end
/-! dict(x) -/
section
variable {X : Cx}
theorem own_newK' {K : PySem.W.Frag} {aS p : Addr} {H : Hp} {A : AS} {ds : List (Key × D)} {xs : List (Key × V)} (hp : H p = none) (r : RepK K aS H A ds xs) : Own K aS (upd H p (.dK xs)) (fun b => A b ∨ b = p) p (.dic ds) := ⟨xs, upd_same, RepK.mono (sub_new hp) _ _ r⟩
/-! {}, d[k] = v, d.get(k, x) -/
variable {E : XK} {O OL vs : List Nat} {e tg o : Expr} {p : Ev → Option D} {pos : Pos} {i : Nat} {g : DG} {mb : SM} {m me mk mo mx : EM D} {mt : EM Bool}
theorem vf_dic0 : VF X E O (.Dict [] [] pos) (eC (.dic [])) := ⟨mn_c, _, pe_dnewK, fun aS A0 H0 σ H s n xq Q S L hm q hq => hm q _ hq (KpS.upd hq) (S.st.upd hq) (own_newK' hq RepK.nil)⟩
def sDput (i : Nat) (mk m : EM D) : SM := fun xq de s n => m xq s n fun d n1 => mk xq s n1 fun k n2 => ∃ kk kvs, keyD k = some kk ∧ s[i]? = some (some (.dic kvs)) ∧ kvs.length < LIM ∧ de.nx (s.set i (some (.dic (putD kvs kk d)))) n2
theorem vs_dput {x : Str} {ix : Expr} {px ps : Pos} (hu : X.A.units + 1 < cLine) (hi : i ∈ O) (hN : X.N[i]? = some x) (hv : Vis X.env.scope x) (hk : VE X E O ix mk) (h : VE X E O e m) (hs : swapsWith e (some (.Subscript (.Name x px) ix ps)) pos.line X.env = pure false := by rfl)
    (hd : (x == ("__debug__" : Str)) = false := by decide) (hcd : (x == ("__classdict__" : Str)) = false := by decide) : VS X E O O OL (.Assign [.Subscript (.Name x px) ix ps] e pos) (sDput i mk m) := by
  obtain ⟨mn, t, pe, f⟩ := h
  obtain ⟨mnk, tk, pk, fk⟩ := hk
  refine ⟨_, ps_dput hu (pe_var hN hv hd hcd) pk pe hs, fun aS A0 H0 σ H s n xq de De S L k h => ?_⟩
  refine f aS A0 H0 σ H s n xq _ S L (mn _ _ _ _ _ (fun d n1 q v H1 k1 st1 r1 => ?_) h)
  have S1 := S.step k1 st1
  obtain ⟨d0, a, e1, e2, _⟩ := S.ow i hi
  refine ⟨.ref a, e2, fk aS A0 H0 σ H1 s n1 xq _ S1 L (mnk _ _ _ _ _ (fun dk n2 q2 u H2 k2 st2 r2 => ?_) q)⟩
  obtain ⟨kk, kvs, z1, z2, z3, q2⟩ := q2
  have S2 := S1.step k2 st2
  obtain ⟨a', ys, y1, y2, y3, y4⟩ := own_dic S2 hi z2
  rw [e2] at y1
  cases y1
  have ek := key_rep z1 (r2.b AV.st)
  subst ek
  refine ⟨a, _, rfl, DPut.k y3 (by rw [y4.length]; exact lim_lt z3), k.nx _ _ _ _ (S2.mutD hi e2 y3 (y4.put kk (r1.kp k2 st1 AV.st))) q2⟩
end
end DL
namespace DL
open PySem PySem.Spec PyProof.Rows L2
variable [TabC]
/-! ### loops by their ends -/
def GSem (X : Cx) (O vs : List Nat) (g : DG) (gt : TG) : Prop := ∀ (aS : Addr) (A0 : A0T) (H0 : Hp) (σ : L2.St) (H : Hp) (s : Ev) (n : Nat) (d : D) (v : V) (Q : Ev → Prop) (QH : L2.St → Hp → Prop), SR X.K aS O A0 H0 σ H s n → Rep X.K aS H (AV aS A0 O σ) d v → g d s Q →
    (∀ σ' s', SR X.K aS O A0 H0 σ' H s' n → σ'.length = σ.length → (∀ j, j ∉ vs → σ'[j]? = σ[j]?) → AV aS A0 O σ' = AV aS A0 O σ → Q s' → QH σ' H) → gt v σ H QH
def TSem (X : Cx) (E : XK) (O : List Nat) (mt : EM Bool) (t : TT) : Prop := ∀ (aS : Addr) (A0 : A0T) (H0 : Hp) (σ : L2.St) (H : Hp) (s : Ev) (n : Nat) (xq : XQ) (Q : Bool → Hp → Prop), SR X.K aS O A0 H0 σ H s n → LX X.K E aS A0 H0 xq →
    mt xq s n (fun b n' => ∀ H', KpS aS H H' → StA X.K aS H' n' → Q b H') → t σ H Q
def ESem (X : Cx) (E : XK) (O : List Nat) (m : EM D) (t : TE) : Prop := ∀ (aS : Addr) (A0 : A0T) (H0 : Hp) (σ : L2.St) (H : Hp) (s : Ev) (n : Nat) (xq : XQ) (Q : VK), SR X.K aS O A0 H0 σ H s n → LX X.K E aS A0 H0 xq →
    m xq s n (fun d n' => ∀ v H', KpS aS H H' → StA X.K aS H' n' → Rep X.K aS H' (AV aS A0 O σ) d v → Q v H') → t σ H Q
def BSem (X : Cx) (E : XK) (O : List Nat) (mb : SM) (t : TS) : Prop := ∀ (aS : Addr) (A0 : A0T) (H0 : Hp) (σ : L2.St) (H : Hp) (s : Ev) (n : Nat) (xq : XQ) (de : DE) (De : Ends), SR X.K aS O A0 H0 σ H s n → LX X.K E aS A0 H0 xq → LK X.K aS O O A0 H0 de De → mb xq de s n → t De σ H
/-- a walk J that begins at H1 -/
abbrev iAt (J : It) (H1 : Hp) : TI := fun _ _ R => R J H1
def ForW (J : It) (g : TG) (tb : TS) (D : Ends) (σ : L2.St) (H1 : Hp) : Prop := tFor (iAt J H1) g tb D σ H1
def LcW (J : It) (g : TG) (tt : TT) (te : TE) (vs : List Nat) (σ : L2.St) (H1 : Hp) (Q : VK) : Prop := tLc (iAt J H1) g tt te vs σ H1 Q
def DcW (J : It) (g : TG) (tt : TT) (tk tv : TE) (vs : List Nat) (σ : L2.St) (H1 : Hp) (Q : VK) : Prop := tDc (iAt J H1) g tt tk tv vs σ H1 Q
/-- one turn of a dict comprehension into the dict at D, N what stands behind it -/
def DTurn (g : TG) (tt : TT) (tk tv : TE) (vs : List Nat) (σ : L2.St) (D : Addr) (N : Hp → Prop) (x : V) (H : Hp) : Prop := g x (wipe σ vs) H fun σ' H' => wipe σ' vs = wipe σ vs ∧ tt σ' H' fun c H'' =>
  if c = true then tk σ' H'' fun y Hk => tv σ' Hk fun z Hv => ∃ kvs k, y = kV k ∧ Hv D = some (.dK kvs) ∧ kvs.length < sizeLine ∧ N (upd Hv D (.dK (putK kvs k z))) else N H''
theorem dc_walk {J : It} {n : Nat} {G : Hp → Prop} {Y : Nat → Hp → V → Hp → Prop} (w : Walk J n G Y) {g : TG} {tt : TT} {tk tv : TE} {vs : List Nat} {σ : L2.St} {H1 : Hp} {Q : VK}
    (h : ∀ D, H1 D = none → ∃ Pv : Nat → Hp → Prop, Pv 0 (upd H1 D (.dK [])) ∧ (∀ i H, i ≤ n → Pv i H → G H) ∧ (∀ i x H H', i < n → Pv i H → Y i H x H' → DTurn g tt tk tv vs σ D (Pv (i + 1)) x H') ∧ ∀ H, Pv n H → Q (.ref D) H) : DcW J g tt tk tv vs σ H1 Q := by
  intro D hD
  obtain ⟨Pv, h0, hG, hs, hd⟩ := h D hD
  refine ⟨fun i m H => i ≤ n ∧ m = n - i ∧ Pv i H, ⟨n, Nat.zero_le _, rfl, h0⟩, fun i m H z => ?_⟩
  obtain ⟨hi, hm, p⟩ := z
  rcases Nat.lt_or_ge i n with hlt | hge
  · exact .inr ⟨w.goes i H hlt (hG i H hi p), Pv (i + 1), fun H' q => ⟨n - (i + 1), by omega, by omega, rfl, q⟩, fun x H' y => hs i x H H' hlt p (w.yields i H x H' hlt (hG i H hi p) y)⟩
  · obtain rfl : i = n := Nat.le_antisymm hi hge
    exact .inl ⟨w.stops H (hG _ H hi p), hd H p⟩
section
variable {X : Cx} {E : XK} {O OB OL vs hid : List Nat} {tg e iter : Expr} {ifs : List Expr} {m me mk : EM D} {mi : EM (List D)} {mt : EM Bool} {mb : SM} {g : DG} {scope : Scope} {pos : Pos}
theorem for_fin {gt : TG} {tb : TS} (fg : GSem X O vs g gt) (fb : BSem X E O mb tb) {aS : Addr} {A0 : A0T} {H0 H1 : Hp} {σ : L2.St} {s : Ev} {n1 : Nat} {xq : XQ} {de : DE} {De : Ends} {ds : List D} {J : It}
    (S1 : SR X.K aS O A0 H0 σ H1 s n1) (L : LX X.K E aS A0 H0 xq) (k : LK X.K aS O OL A0 H0 de De) (it : ItOk X.K aS A0 ds J (bare O σ H1)) (q : sForL g mb xq de ds s n1) : ForW J gt tb De σ H1 := by
  have le := S1.le
  have hF : ∀ {σ' H' s' n'}, SR X.K aS O A0 (bare O σ H1) σ' H' s' n' → Far aS A0 (bare O σ H1) (AV aS A0 O σ') := fun {σ' H' s' n'} S' => ⟨AV.st, fun b z => by
    rcases z with z | z | ⟨j, hj, e⟩
    · exact .inl z
    · exact .inr (.inl z)
    · obtain ⟨d, b', e1, e2, e3, _⟩ := S'.ow j hj
      rw [e] at e2
      cases e2
      exact .inr (.inr e3)⟩
  obtain ⟨G, Y, w, hG, hY⟩ := it
  refine for_it w (fun i σ' H' => ∃ s' n', SR X.K aS O A0 (bare O σ H1) σ' H' s' n' ∧ sForL g mb xq de (ds.drop i) s' n') ⟨s, n1, S1.base, q⟩ (fun i σ' H' _ z => ?_) (fun i x σ' H' H2 hi z y => ?_) (fun σ' H' z => ?_)
  · obtain ⟨s', n', S', _⟩ := z
    exact hG H' S'.fr
  · obtain ⟨s', n', S', q'⟩ := z
    obtain ⟨k2, d, ed, rd⟩ := hY i H' x H2 n' _ hi S'.fr S'.st (hF S') y
    rw [drop_get ed] at q'
    have S2 := S'.step (KpS.all k2.1) (S'.st.kp k2)
    refine fg aS A0 _ σ' H2 s' n' d x _ _ S2 rd q' fun σ3 s3 S3 _ _ a3 q3 => ?_
    exact fb aS A0 _ σ3 H2 s3 n' xq { de with nx := fun s2 n2 => sForL g mb xq de (ds.drop (i + 1)) s2 n2, ct := fun s2 n2 => sForL g mb xq de (ds.drop (i + 1)) s2 n2, bk := de.nx } _ S3 (L.base le) ⟨fun σ4 H4 s4 n4 S4 q4 => ⟨s4, n4, S4, q4⟩, (k.base le).rt, fun σ4 H4 s4 n4 S4 q4 => k.nx σ4 H4 s4 n4 (S4.back le) q4, fun σ4 H4 s4 n4 S4 q4 => ⟨s4, n4, S4, q4⟩⟩ q3
  · obtain ⟨s', n', S', q'⟩ := z
    rw [List.drop_length] at q'
    exact k.nx σ' H' s' n' (S'.back le) q'
theorem lc_fin {own : List (Str × Nat)} {ws : List Nat} {gt : TG} {tt : TT} {te : TE} (mnt : Mn mt) (mne : Mn me) (fg : GSem X OB ws g gt) (ft : TSem X E OB mt tt) (fe : ESem X E OB me te) (hown : ∀ j ∈ own.map (·.2), j ∉ OB) (hws : ∀ j ∈ ws, j ∈ own.map (·.2))
    {aS : Addr} {A0 A1 : A0T} {H0 H H1 : Hp} {σ : L2.St} {s : Ev} {n1 : Nat} {ds : List D} {J : It} {Q : VK} (kp : KpS aS H H1) (st : StA X.K aS H1 n1) (eA : AV aS A1 OB σ = AV aS A0 O σ) (S1 : SR X.K aS OB A1 H0 σ H1 (hideL s hid) n1) (it : ItOk X.K aS A1 ds J (bare OB σ H1)) (hlim : ds.length ≤ LIM)
    (q : sLcL g mt me (fun _ _ => False) (hideL s (own.map (·.2) ++ hid)) ds n1 [] fun xs n2 => ∀ a H', H a = none → KpS aS H H' → StA X.K aS H' n2 → Own X.K aS H' (fun b => AV aS A0 O σ b ∨ b = a) a (.lst xs) → Q (.ref a) H') : LcW J gt tt te (own.map (·.2)) σ H1 Q := by
  have LF : ∀ A1, LX X.K E aS A1 H0 (fun _ _ => False) := fun _ _ _ _ _ _ _ _ _ z => z.elim
  intro Dn hD
  obtain ⟨G, Y, w, hG, hY⟩ := it
  have hDs : Dn ≠ aS := fun z => by
    obtain ⟨xs, e⟩ := st.lst
    rw [z, e] at hD
    cases hD
  have hD0 : H0 Dn = none := Option.eq_none_iff_forall_ne_some.mpr fun u z => by
    exact (KpS.gone S1.fr hD z (hDs)).elim
  have hDH : H Dn = none := Option.eq_none_iff_forall_ne_some.mpr fun u z => by
    exact (KpS.gone kp hD z (hDs)).elim
  have S2 : SR X.K aS OB ⟨fun b => A1 b ∨ b = Dn, A1.z⟩ H0 (L2.wipe σ (own.map (·.2))) (upd H1 Dn (.lst [])) (hideL s (own.map (·.2) ++ hid)) n1 := by
    rw [hideL_append]
    exact (SR.wipe hown S1).laidA hD
  have hFar : ∀ {σ'}, AV aS (fun b => A1 b ∨ b = Dn) OB σ' = AV aS (fun b => A1 b ∨ b = Dn) OB σ → Far aS A1 (bare OB σ H1) (AV aS (fun b => A1 b ∨ b = Dn) OB σ') := fun {σ'} e => by
    rw [e]
    refine ⟨AV.st, fun b z => ?_⟩
    rcases z with (z | z) | z | z
    · exact .inl z
    · refine .inr (.inr ?_)
      by_cases y : ∃ i, i ∈ OB ∧ σ[i]? = some (some (.ref b))
      · exact bare_own y
      · rw [bare_not y, z]; exact hD
    · exact .inr (.inl z)
    · exact .inr (.inr (bare_own z))
  have eW : AV aS (fun b => A1 b ∨ b = Dn) OB (L2.wipe σ (own.map (·.2))) = AV aS (fun b => A1 b ∨ b = Dn) OB σ := AV.wipe hown
  have kb : ∀ {H'}, KpS aS H1 H' → KpS aS (bare OB σ H1) H' := fun {H'} k b u e z => k b u (bare_some e) z
  refine lc_it w (fun i H' => ∃ n' acc xs, SR X.K aS OB ⟨fun b => A1 b ∨ b = Dn, A1.z⟩ H0 (L2.wipe σ (own.map (·.2))) H' (hideL s (own.map (·.2) ++ hid)) n' ∧ KpS aS H1 H' ∧ H' Dn = some (.lst xs) ∧ RepL X.K aS H' (AV aS (fun b => A1 b ∨ b = Dn) OB σ) acc xs ∧ acc.length ≤ i ∧
      sLcL g mt me (fun _ _ => False) (hideL s (own.map (·.2) ++ hid)) (ds.drop i) n' acc (fun xs n2 => ∀ a H', H a = none → KpS aS H H' → StA X.K aS H' n2 → Own X.K aS H' (fun b => AV aS A0 O σ b ∨ b = a) a (.lst xs) → Q (.ref a) H'))
    ⟨n1, [], [], S2, KpS.upd hD, upd_same, RepL.nil, Nat.zero_le _, q⟩ (fun i H' _ z => ?_) (fun i x H' H2 hi z y => ?_) (fun H' z => ?_)
  · obtain ⟨n', acc, xs, _, k1, _⟩ := z
    exact hG H' (kb k1)
  · obtain ⟨n', acc, xs, S', k1, hd, rl, hl, q'⟩ := z
    obtain ⟨k2, d, ed, rd⟩ := hY i H' x H2 n' _ hi (kb k1) S'.st (hFar eW) y
    rw [drop_get ed] at q'
    have S3 := S'.step (KpS.all k2.1) (S'.st.kp k2)
    refine fg aS _ H0 _ H2 _ n' d x _ _ S3 rd q' fun σ3 s3 S4 l3 o3 a3 q3 => ?_
    refine ⟨?_, ft aS _ H0 σ3 H2 s3 n' (fun _ _ => False) _ S4 (LF _) (mnt _ _ _ _ _ (fun c n2 q4 H3 k3 st3 => ?_) q3)⟩
    · have e1 := wipe_eq (vs := own.map (·.2)) l3 fun j hj => o3 j fun z => hj (hws j z)
      rw [e1]
      exact wipe_eq (wipe_length _ _) fun j hj => wipe_out hj
    · have kk : KpS aS H' H3 := (KpS.all k2.1).trans k3
      cases c with
      | true =>
        rw [if_pos rfl] at q4 ⊢
        refine fe aS _ H0 σ3 H3 s3 n2 (fun _ _ => False) _ (S4.step k3 st3) (LF _) (mne _ _ _ _ _ (fun y n3 q5 v H4 k4 st4 r4 => ?_) q4)
        have k5 := kk.trans k4
        refine ⟨xs, k5.lst hd hDs, ?_, n3, acc ++ [y], xs ++ [v], ?_, KpS.upd2 (k1.trans k5) hD, upd_same, ?_, by rw [List.length_append]; exact Nat.succ_le_succ hl, q5⟩
        · rw [rl.length]
          exact Nat.lt_of_le_of_lt hl (lim_lt (Nat.lt_of_lt_of_le hi hlim))
        · exact (S'.step k5 st4).poke (.inr rfl) hDs (k5.lst hd hDs) hD0 (fun _ z => nomatch z) (fun _ _ z => nomatch z)
        · have e2 : AV aS (fun b => A1 b ∨ b = Dn) OB σ3 = AV aS (fun b => A1 b ∨ b = Dn) OB σ := a3.trans eW
          rw [e2] at r4
          exact RepL.mono (sub_poke (A := AV aS (fun b => A1 b ∨ b = Dn) OB σ) (.inl (.inr rfl)) (k5.lst hd hDs) (fun _ z => nomatch z)) _ _ ((rl.kp k5 S'.st AV.st).app (RepL.cons r4 RepL.nil))
      | false =>
        rw [if_neg (by decide)] at q4 ⊢
        exact ⟨n2, acc, xs, S'.step kk st3, k1.trans kk, kk.lst hd hDs, rl.kp kk S'.st AV.st, Nat.le_succ_of_le hl, q4⟩
  · obtain ⟨n', acc, xs, S', k1, hd, rl, hl, q'⟩ := z
    rw [List.drop_length] at q'
    refine q' Dn H' hDH (kp.trans k1) S'.st ⟨xs, hd, ?_⟩
    rw [AV.plus, eA] at rl
    exact rl
end
end DL
namespace DL
open PySem PySem.Spec PyProof.Rows L2
variable [TabC]
/-! ### dict comprehensions -/
def sDcL (g : DG) (mt : EM Bool) (mk me : EM D) (xq : XQ) (s0 : Ev) : List D → Nat → List (Key × D) → (List (Key × D) → Nat → Prop) → Prop
  | [], n, acc, Q => Q acc n
  | d :: ds, n, acc, Q => g d s0 fun s1 => mt xq s1 n fun c n1 => if c = true then mk xq s1 n1 fun k n2 => me xq s1 n2 fun x n3 => ∃ kk, keyD k = some kk ∧ sDcL g mt mk me xq s0 ds n3 (putD acc kk x) Q else sDcL g mt mk me xq s0 ds n1 acc Q
section
variable {X : Cx} {E : XK} {O OB OL vs hid : List Nat} {tg e iter kx : Expr} {ifs : List Expr} {m me mk : EM D} {mi : EM (List D)} {mt : EM Bool} {mb : SM} {g : DG} {scope : Scope} {pos : Pos}
theorem mn_dcL (h1 : Mn mt) (hk : Mn mk) (h2 : Mn me) (h3 : ∀ d s Q Q', (∀ s', Q s' → Q' s') → g d s Q → g d s Q') {xq : XQ} {s0 : Ev} : ∀ (ds : List D) (n : Nat) (acc : List (Key × D)) (Q Q' : List (Key × D) → Nat → Prop), (∀ x n, Q x n → Q' x n) → sDcL g mt mk me xq s0 ds n acc Q → sDcL g mt mk me xq s0 ds n acc Q'
  | [], n, acc, Q, Q', hq, h => hq _ _ h
  | d :: ds, n, acc, Q, Q', hq, h => h3 _ _ _ _ (fun s1 h => h1 _ _ _ _ _ (fun c n1 h => by
      cases c with
      | true => exact hk _ _ _ _ _ (fun k n2 h => h2 _ _ _ _ _ (fun x n3 ⟨kk, e, h⟩ => ⟨kk, e, mn_dcL h1 hk h2 h3 ds n3 _ Q Q' hq h⟩) h) h
      | false => exact mn_dcL h1 hk h2 h3 ds n1 _ Q Q' hq h) h) h
theorem dc_fin {own : List (Str × Nat)} {ws : List Nat} {gt : TG} {tt : TT} {tk te : TE} (mnt : Mn mt) (mnk : Mn mk) (mne : Mn me) (fg : GSem X OB ws g gt) (ft : TSem X E OB mt tt) (fk : ESem X E OB mk tk) (fe : ESem X E OB me te) (hown : ∀ j ∈ own.map (·.2), j ∉ OB) (hws : ∀ j ∈ ws, j ∈ own.map (·.2))
    {aS : Addr} {A0 A1 : A0T} {H0 H H1 : Hp} {σ : L2.St} {s : Ev} {n1 : Nat} {ds : List D} {J : It} {Q : VK} (kp : KpS aS H H1) (st : StA X.K aS H1 n1) (eA : AV aS A1 OB σ = AV aS A0 O σ) (S1 : SR X.K aS OB A1 H0 σ H1 (hideL s hid) n1) (it : ItOk X.K aS A1 ds J (bare OB σ H1)) (hlim : ds.length ≤ LIM)
    (q : sDcL g mt mk me (fun _ _ => False) (hideL s (own.map (·.2) ++ hid)) ds n1 [] fun xs n2 => ∀ a H', H a = none → KpS aS H H' → StA X.K aS H' n2 → Own X.K aS H' (fun b => AV aS A0 O σ b ∨ b = a) a (.dic xs) → Q (.ref a) H') : DcW J gt tt tk te (own.map (·.2)) σ H1 Q := by
  have LF : ∀ A1, LX X.K E aS A1 H0 (fun _ _ => False) := fun _ _ _ _ _ _ _ _ _ z => z.elim
  obtain ⟨G, Y, w, hG, hY⟩ := it
  refine dc_walk w fun Dn hD => ?_
  have hDs : Dn ≠ aS := fun z => by
    obtain ⟨xs, e⟩ := st.lst
    rw [z, e] at hD
    cases hD
  have hD0 : H0 Dn = none := Option.eq_none_iff_forall_ne_some.mpr fun u z => by
    exact (KpS.gone S1.fr hD z (hDs)).elim
  have hDH : H Dn = none := Option.eq_none_iff_forall_ne_some.mpr fun u z => by
    exact (KpS.gone kp hD z (hDs)).elim
  have S2 : SR X.K aS OB ⟨fun b => A1 b ∨ b = Dn, A1.z⟩ H0 (L2.wipe σ (own.map (·.2))) (upd H1 Dn (.dK [])) (hideL s (own.map (·.2) ++ hid)) n1 := by
    rw [hideL_append]
    exact (SR.wipe hown S1).laidA hD
  have hFar : ∀ {σ'}, AV aS (fun b => A1 b ∨ b = Dn) OB σ' = AV aS (fun b => A1 b ∨ b = Dn) OB σ → Far aS A1 (bare OB σ H1) (AV aS (fun b => A1 b ∨ b = Dn) OB σ') := fun {σ'} e => by
    rw [e]
    refine ⟨AV.st, fun b z => ?_⟩
    rcases z with (z | z) | z | z
    · exact .inl z
    · refine .inr (.inr ?_)
      by_cases y : ∃ i, i ∈ OB ∧ σ[i]? = some (some (.ref b))
      · exact bare_own y
      · rw [bare_not y, z]; exact hD
    · exact .inr (.inl z)
    · exact .inr (.inr (bare_own z))
  have eW : AV aS (fun b => A1 b ∨ b = Dn) OB (L2.wipe σ (own.map (·.2))) = AV aS (fun b => A1 b ∨ b = Dn) OB σ := AV.wipe hown
  have kb : ∀ {H'}, KpS aS H1 H' → KpS aS (bare OB σ H1) H' := fun {H'} k b u e z => k b u (bare_some e) z
  refine ⟨(fun i H' => ∃ n' acc xs, SR X.K aS OB ⟨fun b => A1 b ∨ b = Dn, A1.z⟩ H0 (L2.wipe σ (own.map (·.2))) H' (hideL s (own.map (·.2) ++ hid)) n' ∧ KpS aS H1 H' ∧ H' Dn = some (.dK xs) ∧ RepK X.K aS H' (AV aS (fun b => A1 b ∨ b = Dn) OB σ) acc xs ∧ acc.length ≤ i ∧
      sDcL g mt mk me (fun _ _ => False) (hideL s (own.map (·.2) ++ hid)) (ds.drop i) n' acc (fun xs n2 => ∀ a H', H a = none → KpS aS H H' → StA X.K aS H' n2 → Own X.K aS H' (fun b => AV aS A0 O σ b ∨ b = a) a (.dic xs) → Q (.ref a) H'))
    , ⟨n1, [], [], S2, KpS.upd hD, upd_same, RepK.nil, Nat.zero_le _, q⟩, (fun i H' _ z => ?_), (fun i x H' H2 hi z y => ?_), (fun H' z => ?_)⟩
  · obtain ⟨n', acc, xs, _, k1, _⟩ := z
    exact hG H' (kb k1)
  · obtain ⟨n', acc, xs, S', k1, hd, rl, hl, q'⟩ := z
    obtain ⟨k2, d, ed, rd⟩ := hY i H' x H2 n' _ hi (kb k1) S'.st (hFar eW) y
    rw [drop_get ed] at q'
    have S3 := S'.step (KpS.all k2.1) (S'.st.kp k2)
    refine fg aS _ H0 _ H2 _ n' d x _ _ S3 rd q' fun σ3 s3 S4 l3 o3 a3 q3 => ?_
    refine ⟨?_, ft aS _ H0 σ3 H2 s3 n' (fun _ _ => False) _ S4 (LF _) (mnt _ _ _ _ _ (fun c n2 q4 H3 k3 st3 => ?_) q3)⟩
    · have e1 := wipe_eq (vs := own.map (·.2)) l3 fun j hj => o3 j fun z => hj (hws j z)
      rw [e1]
      exact wipe_eq (wipe_length _ _) fun j hj => wipe_out hj
    · have kk : KpS aS H' H3 := (KpS.all k2.1).trans k3
      cases c with
      | true =>
        rw [if_pos rfl] at q4 ⊢
        refine fk aS _ H0 σ3 H3 s3 n2 (fun _ _ => False) _ (S4.step k3 st3) (LF _) (mnk _ _ _ _ _ (fun yk n3 q5 vk H4 k4 st4 r4 => ?_) q4)
        refine fe aS _ H0 σ3 H4 s3 n3 (fun _ _ => False) _ (S4.step (k3.trans k4) st4) (LF _) (mne _ _ _ _ _ (fun y n4 q6 v H5 k5 st5 r5 => ?_) q5)
        have k6 := (kk.trans k4).trans k5
        obtain ⟨key, hk, q6⟩ := q6
        refine ⟨xs, key, key_rep hk (r4.b AV.st), k6.dk hd hDs, ?_, n4, putD acc key y, putK xs key v, ?_, KpS.upd2 (k1.trans k6) hD, upd_same, ?_, Nat.le_trans (putD_len _ _ _) (Nat.succ_le_succ hl), q6⟩
        · rw [rl.length]
          exact Nat.lt_of_le_of_lt hl (lim_lt (Nat.lt_of_lt_of_le hi hlim))
        · exact (S'.step k6 st5).poke (.inr rfl) hDs (k6.dk hd hDs) hD0 (fun _ z => nomatch z) (fun _ _ z => nomatch z)
        · have e2 : AV aS (fun b => A1 b ∨ b = Dn) OB σ3 = AV aS (fun b => A1 b ∨ b = Dn) OB σ := a3.trans eW
          rw [e2] at r5
          exact RepK.mono (sub_poke (A := AV aS (fun b => A1 b ∨ b = Dn) OB σ) (.inl (.inr rfl)) (k6.dk hd hDs) (fun _ z => nomatch z)) _ _ ((rl.kp k6 S'.st AV.st).put key r5)
      | false =>
        rw [if_neg (by decide)] at q4 ⊢
        exact ⟨n2, acc, xs, S'.step kk st3, k1.trans kk, kk _ _ hd hDs, rl.kp kk S'.st AV.st, Nat.le_succ_of_le hl, q4⟩
  · obtain ⟨n', acc, xs, S', k1, hd, rl, hl, q'⟩ := z
    rw [List.drop_length] at q'
    refine q' Dn H' hDH (kp.trans k1) S'.st ⟨xs, hd, ?_⟩
    rw [AV.plus, eA] at rl
    exact rl
def eDc (mi : EM (List D)) (hs : List Nat) (g : DG) (mt : EM Bool) (mk me : EM D) : EM D := fun xq s n Q => mi xq s n fun ds n1 => ds.length ≤ LIM ∧ sDcL g mt mk me (fun _ _ => False) (hideL s hs) ds n1 [] fun xs n2 => Q (.dic xs) n2
theorem vf_dc {own : List (Str × Nat)} {ws : List Nat} (hc : X.calm = true) (hN : X.N.Nodup) (hi : VI X E O OB hid tg iter mi) (ok : BlkOk X.N X.env.scope scope own) (hown : ∀ j ∈ own.map (·.2), j ∉ OB) (hws : ∀ j ∈ ws, j ∈ own.map (·.2))
    (hg : ∀ c : Bk, VG (Cx.bk X scope c) OB ws tg g) (ht : ∀ c : Bk, VTs (Cx.bk X scope c) EF OB ifs mt) (hk : ∀ c : Bk, VE (Cx.bk X scope c) EF OB kx mk) (he : ∀ c : Bk, VE (Cx.bk X scope c) EF OB e me) (hs : ∀ x, foldedSetIterable iter X.env x = pure x := by intro _; rfl) :
    VF X E O (.DictComp kx e [⟨tg, iter, ifs, 0⟩] scope pos) (eDc mi (own.map (·.2) ++ hid) g mt mk me) := by
  have mnt := (ht bk0).1
  have mne := (he bk0).1
  have mnk := (hk bk0).1
  have mng := (hg bk0).1
  obtain ⟨mni, wi, pi, fi⟩ := hi
  obtain ⟨gt, pg, fg⟩ := VG.all hg
  obtain ⟨tt, pt, ft⟩ := VTs.all ht
  obtain ⟨tk, pk, fk⟩ := VX.all hk
  obtain ⟨te, pe, fe⟩ := VX.all he
  refine ⟨fun xq s n Q Q' hq h => mni _ _ _ _ _ (fun ds n1 h => ⟨h.1, mn_dcL mnt mnk mne mng _ _ _ _ _ (fun x n2 => hq _ _) h.2⟩) h, _, pe_dc hc hN pi ok (fun s H C cl fp => pg (s, H, C, cl, fp)) (fun s H C cl fp => pt (s, H, C, cl, fp)) (fun s H C cl fp => pk (s, H, C, cl, fp)) (fun s H C cl fp => pe (s, H, C, cl, fp)) hs, fun aS A0 H0 σ H s n xq Q S L hm => ?_⟩
  refine fi aS A0 H0 σ H s n xq _ S L (mni _ _ _ _ _ (fun ds n1 q J H1 A1 kp st eA S1 it => ?_) hm)
  exact dc_fin mnt mnk mne fg ft fk fe hown hws kp st eA S1 it q.1 q.2
/-! ### over a dict -/
def itemsD (kvs : List (Key × D)) : List D := kvs.map fun kv => .tup [kD kv.1, kv.2]
theorem frz_on {K : PySem.W.Frag} {aS b : Addr} {A0 : AS} {H H1 : Hp} {σ : L2.St} {o : Obj} {v : HO} (hn : ¬ AV aS A0 O σ b) (hb : H b = some (.frz o v)) (k : KpS aS (bare O σ H) H1) : H1 b = some (.frz o v) :=
  k b (.frz o v) ((bare_not fun z => hn (.inr (.inr z))).trans hb) fun z => hn (.inr (.inl z))
theorem ps_or {st : Stmt} {t u : TS} (h : PS X st t) (h' : PS X st u) : PS X st (fun D σ H => t D σ H ∨ u D σ H) := ⟨fun pins s σ H D I q => q.elim (h.run pins s σ H D I) (h'.run pins s σ H D I)⟩
theorem pe_or {t u : TE} (h : PE X e t) (h' : PE X e u) : PE X e (fun σ H Q => t σ H Q ∨ u σ H Q) := ⟨fun pins s σ H D I q => q.elim (h.run pins s σ H D I) (h'.run pins s σ H D I)⟩
/-- locked at d -/
def tLockAt (d : Addr) (u : HO) (t : TS) : TS := fun D σ H => ∀ od, t ⟨fun σ' H' => H' d = some (.frz od u) ∧ D.nx σ' (upd H' d u), fun v H' => H' d = some (.frz od u) ∧ D.rt v (upd H' d u), fun σ' H' => H' d = some (.frz od u) ∧ D.bk σ' (upd H' d u), fun σ' H' => H' d = some (.frz od u) ∧ D.ct σ' (upd H' d u)⟩ σ (upd H d (.frz od u))
/-- a statement while the thing at d is locked; d was not locked at the def's entry -/
theorem ps_lockN {st : Stmt} {t : TS} (h : PS X st t) : PS X st (fun D σ H => ∃ d u, H d = some u ∧ Mut (some u) ∧ ((∀ o' u', X.H_0 d ≠ some (.frz o' u')) → tLockAt d u t D σ H)) := by
  refine ⟨fun pins s σ H D I hw => ?_⟩
  obtain ⟨d, u, hd, mu, hw⟩ := hw
  have z : tLock t D σ H := ⟨d, u, hd, mu, hw (I.nofrz hd mu)⟩
  exact (ps_lock h).run pins s σ H D I z
end
end DL
namespace DL
open PySem PySem.Spec PyProof.Rows L2
variable [TabC]
/-! ### defs that hand back a new object -/
def VSsF (X : Cx) (E : XK) (O : List Nat) (st : List Stmt) (m : SM) : Prop := ∃ t, PSs X st t ∧ ∀ (aS : Addr) (A0 : A0T) (H0 : Hp) (σ : L2.St) (H : Hp) (s : Ev) (n : Nat) (xq : XQ) (de : DE) (De : Ends), SR X.K aS O A0 H0 σ H s n → LX X.K E aS A0 H0 xq →
  (∀ a H' d n', H0 a = none → KpS aS H0 H' → StA X.K aS H' n' → Own X.K aS H' (fun b => AV aS A0 [] [] b ∨ b = a) a d → de.rt d n' → De.rt (.ref a) H') → m xq de s n → t De σ H
def sSeqF (m r : SM) : SM := fun xq de s n => m xq { nx := fun s' n' => r xq de s' n', rt := fun _ _ => False } s n
def liftF (K : PySem.W.Frag) (len : Nat) (sp : FSp) : Sp := fun vs H Q E => ∃ (aS : Addr) (A0 : AS) (ds : List D) (n : Nat) (xq : XQ), ds.length = len ∧ RepL K aS H (AV aS A0 [] []) ds vs ∧ StA K aS H n ∧ (∀ a, A0 a → ∃ u, H a = some u) ∧ LX K E aS A0 H xq ∧
  sp.run ds n (fun d n' => ∀ a H', H a = none → KpS aS H H' → StA K aS H' n' → Own K aS H' (fun b => AV aS A0 [] [] b ∨ b = a) a d → Q (.ref a) H') xq
section
variable {X : Cx} {E : XK} {O O' : List Nat} {e : Expr} {st : Stmt} {rest : List Stmt} {m : EM D} {ms mr : SM} {pos : Pos} {i : Nat}
theorem vssF_cons (h1 : VS X E O O' [] st ms) (h2 : VSsF X E O' rest mr) : VSsF X E O (st :: rest) (sSeqF ms mr) := by
  obtain ⟨t, p, f⟩ := h1
  obtain ⟨u, p2, f2⟩ := h2
  exact ⟨_, pss_cons p p2, fun aS A0 H0 σ H s n xq de De S L k h => f aS A0 H0 σ H s n xq { nx := fun s' n' => mr xq de s' n', rt := fun _ _ => False } _ S L ⟨fun σ' H' s' n' S' q => f2 aS A0 H0 σ' H' s' n' xq de De S' L k q, fun _ _ _ _ _ _ _ z => z.elim, fun _ _ _ _ _ z => z.elim, fun _ _ _ _ _ z => z.elim⟩ h⟩
theorem vssF_retO {x : Str} {p' : Pos} (hi : i ∈ O) (hN : X.N[i]? = some x) (hv : Vis X.env.scope x) (hd : (x == ("__debug__" : Str)) = false := by decide) (hcd : (x == ("__classdict__" : Str)) = false := by decide) : VSsF X E O [.Return (some (.Name x p')) pos] (sRet (eVar i)) := by
  refine ⟨_, pss_one (ps_ret (pe_var hN hv hd hcd)), fun aS A0 H0 σ H s n xq de De S L k h => ?_⟩
  obtain ⟨d, e, q⟩ := h
  obtain ⟨d', a, e1, e2, e3, e4, e5, e6⟩ := S.ow i hi
  rw [e] at e1
  cases e1
  exact ⟨.ref a, e2, k a H d n e3 S.fr S.st (e6.mono fun b z => z.elim (fun z => av_nil b z) fun z => .inr (.inr ⟨i, hi, z ▸ e2⟩)) q⟩
variable {P : Program} {w : World} {K : PySem.W.Frag} {mg : Str → Option Value} {base : Heap} {x qual : Str} {params : Arguments} {body : List Stmt} {scope : Scope} {dvs : List V} {kws : List (Str × V)} {f : Addr} {fd : FuncData}
theorem dfnF {N ps : List Str} {k : Nat} {sp : FSp} {m : SM} (F : FunD K x qual params body scope dvs kws f fd) (Sc : FnScope N ps scope)
    (hb : ∀ (cdv : Value) (A : Around) (outer : List Env) (s : Shared) (H : Hp) (E : XK), Room k (A.deeper (envOfC qual scope s.heap.objs.size f cdv)) → VSsF (cxOf (CX P w) P w K mg base N qual scope f cdv A outer s H E) (EU H E) [] body m)
    (hm : ∀ ds n Q xq, ds.length = ps.length → sp.run ds n Q xq → m xq { nx := fun _ _ => False, rt := Q } (startD N ds) n) : FnOk P w K mg base (CX P w) (k + 1) f fd ps (liftF K ps.length sp) := by
  refine F.ok Sc (fun vs H Q E h => ?_) (fun cdv A outer s H vs Q E hr h => ?_)
  · obtain ⟨aS, A0, ds, n, xq, hl, r, _⟩ := h
    rw [r.length, hl]
  · obtain ⟨aS, A0, ds, n, xq, hl, r, st, av, L, q⟩ := h
    obtain ⟨t, p, ft⟩ := hb cdv A outer s H E hr
    refine ⟨t, p, ft aS ⟨A0, none⟩ H _ H _ n xq _ _ (SR.start r st av) L.eu ?_ (hm ds n _ xq hl q)⟩
    exact fun a H' d n' ha kp st o q => q a H' ha kp st o
end
section
variable {X : Cx} {E : XK} {O : List Nat} {e : Expr} {es : List Expr} {ml : EM (List D)} {pos p : Pos} {x : Str} {f : Addr} {fd : FuncData} {ps : List Str} {k : Nat} {sp : FSp} {dds : List D} {dvs : List V} {us : List Value}
theorem SR.callF {K : PySem.W.Frag} {aS : Addr} {A0 : A0T} {H0 H : Hp} {σ : L2.St} {s : Ev} {n len : Nat} {ds : List D} {vs : List V} {xq : XQ} {Q : VK} (S : SR K aS O A0 H0 σ H s n) (L : LX K E aS A0 H0 xq) (hl : ds.length = len) (r : RepL K aS H (AV aS A0 O σ) ds vs)
    (q : sp.run ds n (fun d n' => ∀ a H', H a = none → KpS aS H H' → StA K aS H' n' → Own K aS H' (fun b => AV aS A0 O σ b ∨ b = a) a d → Q (.ref a) H') xq) : liftF K len sp vs H Q E := by
  have eA : AV aS (AV aS A0 O σ) [] [] = AV aS A0 O σ := AV.of AV.st
  refine ⟨aS, AV aS A0 O σ, ds, n, xq, hl, by rw [eA]; exact r, S.st, S.cn.dom, L.call S, ?_⟩
  rw [eA]
  exact q
theorem vf_call (tk : TK X E) (F : FnOk X.prog X.w X.K X.mg X.base (CX X.prog X.w) k f fd ps (liftF X.K ps.length sp)) (hr : Room k X.A) (hg : Gl X x) (hm : X.mg x = some (.ref f)) (hk : PySem.W.keepIn X.K (.ref f) = true) (hb : Binds X.K fd ps us) (hd : Vals dvs us)
    (hdd : ∀ aS H A, RepL X.K aS H A dds dvs) (ha : VA Rep X E O (e :: es) ml) (hdb : (x == ("__debug__" : Str)) = false := by decide)
    (he : starEach (e :: es) X.env = (false, eval e X.env) :: starEach es X.env := by rfl) (hpl : (backTo pos (starEach es X.env)).any (·.1) = false := by rfl) : VF X E O (.Call (.Name x p) (e :: es) [] pos) (eCall ps.length sp dds ml) := by
  obtain ⟨mn, t, pa, ft⟩ := ha
  refine ⟨mn_call mn, _, pe_call F hr hg hm hk  hb hd (passes_call tk fun _ _ _ _ h => h) pa hdb he hpl, fun aS A0 H0 σ H s n xq Q S L hm => ?_⟩
  refine ft aS A0 H0 σ H s n xq _ S L (mn _ _ _ _ _ (fun ds n1 q vs H1 k1 st1 r1 => ?_) hm)
  have S1 := S.step k1 st1
  refine S1.callF L q.1 ((RL.repL r1).app (hdd aS H1 _)) (sp.mn _ _ _ _ _ (fun d n' w a H' ha kp st o => w a H' ?_ (k1.trans kp) st o) q.2)
  refine Option.eq_none_iff_forall_ne_some.mpr fun u z => ?_
  exact (KpS.gone k1 ha z (fun y => S1.new ha (.inr (.inl y)))).elim
end
end DL
namespace DL
open PySem PySem.Spec PyProof.Rows L2
variable [TabC]
/-! ### defs by their global names -/
def GFn (P : Program) (w : World) (K : PySem.W.Frag) (mg : Str → Option Value) (base : Heap) (x : Str) (k : Nat) (ps : List Str) (L : Sp) : Prop := ∃ f fd, mg x = some (.ref f) ∧ PySem.W.keepIn K (.ref f) = true ∧ Binds K fd ps [] ∧ FnOk P w K mg base (CX P w) k f fd ps L
theorem Room.le {k k' : Nat} {A : Around} (h : Room k' A) (hk : k ≤ k') : Room k A := ⟨h.hd, by have := h.dp; omega, by have := h.un; omega⟩
theorem Room.u {k : Nat} {A : Around} (h : Room k A) : A.units + 1 < cLine := by have := h.un; omega
theorem Room.u64 {k : Nat} {A : Around} (h : Room k A) : A.units + 64 < cLine := by have := h.un; omega
theorem Room.u65 {k : Nat} {A : Around} (h : Room k A) : A.units + 65 < cLine := by have := h.un; omega
section
variable {X : Cx} {E : XK} {O : List Nat} {e : Expr} {es : List Expr} {ml : EM (List D)} {pos p : Pos} {x : Str} {ps : List Str} {k k' : Nat} {sp : FSp}
theorem ve_g (tk : TK X E) {len : Nat} (hl : ps.length = len) (G : GFn X.prog X.w X.K X.mg X.base x k ps (lift X.K len sp)) (hr : Room k' X.A) (hk : k ≤ k') (hg : Gl X x) (ha : VA Rep X E O (e :: es) ml) (hdb : (x == ("__debug__" : Str)) = false := by decide)
    (he : starEach (e :: es) X.env = (false, eval e X.env) :: starEach es X.env := by rfl) (hpl : (backTo pos (starEach es X.env)).any (·.1) = false := by rfl) : VE X E O (.Call (.Name x p) (e :: es) [] pos) (eCall len sp [] ml) := by
  subst hl
  obtain ⟨f, fd, h1, h2, h3, h4⟩ := G
  exact ve_call tk h4 (DL.Room.le hr hk) hg h1 h2 h3 .nil (fun _ _ _ => RepL.nil) ha hdb he hpl
theorem vf_g (tk : TK X E) {len : Nat} (hl : ps.length = len) (G : GFn X.prog X.w X.K X.mg X.base x k ps (liftF X.K len sp)) (hr : Room k' X.A) (hk : k ≤ k') (hg : Gl X x) (ha : VA Rep X E O (e :: es) ml) (hdb : (x == ("__debug__" : Str)) = false := by decide)
    (he : starEach (e :: es) X.env = (false, eval e X.env) :: starEach es X.env := by rfl) (hpl : (backTo pos (starEach es X.env)).any (·.1) = false := by rfl) : VF X E O (.Call (.Name x p) (e :: es) [] pos) (eCall len sp [] ml) := by
  subst hl
  obtain ⟨f, fd, h1, h2, h3, h4⟩ := G
  exact vf_call tk h4 (DL.Room.le hr hk) hg h1 h2 h3 .nil (fun _ _ _ => RepL.nil) ha hdb he hpl
end
section
variable {P : Program} {w : World} {K : PySem.W.Frag} {mg : Str → Option Value} {base : Heap} {x : Str} {params : Arguments} {body : List Stmt} {scope : Scope} {f : Addr} {fd : FuncData}
/-- a call's own context -/
abbrev CxD (P : Program) (w : World) (K : PySem.W.Frag) (mg : Str → Option Value) (base : Heap) (N : List Str) (qual : Str) (scope : Scope) (f : Addr) (cdv : Value) (A : Around) (outer : List Env) (s : Shared) (H : Hp) (E : XK) : Cx := cxOf (CX P w) P w K mg base N qual scope f cdv A outer s H E
theorem cx_tk {N : List Str} {qual : Str} {scope : Scope} {f : Addr} {cdv : Value} {A : Around} {outer : List Env} {s : Shared} {H : Hp} {E : XK} : TK (CxD P w K mg base N qual scope f cdv A outer s H E) (EU H E) := tk_eu (X := CxD P w K mg base N qual scope f cdv A outer s H E) (takes_of rfl rfl rfl rfl)
theorem cx_po {N : List Str} {qual : Str} {scope : Scope} {f : Addr} {cdv : Value} {A : Around} {outer : List Env} {s : Shared} {H : Hp} {E : XK} : PassesOwn (model P w) (CxD P w K mg base N qual scope f cdv A outer s H E).A (CxD P w K mg base N qual scope f cdv A outer s H E).env (CxD P w K mg base N qual scope f cdv A outer s H E).xe := passes_of rfl
theorem cx_uc {N : List Str} {qual : Str} {scope : Scope} {f : Addr} {cdv : Value} {A : Around} {outer : List Env} {s : Shared} {H : Hp} {E : XK} : UC (CxD P w K mg base N qual scope f cdv A outer s H E) (EU H E) := uc_eu (X := CxD P w K mg base N qual scope f cdv A outer s H E)
def Body (P : Program) (w : World) (K : PySem.W.Frag) (mg : Str → Option Value) (base : Heap) (N : List Str) (qual : Str) (scope : Scope) (k : Nat) (O O' : List Nat) (body : List Stmt) (m : SM) : Prop :=
  ∀ (f : Addr) (cdv : Value) (A : Around) (outer : List Env) (s : Shared) (H : Hp) (E : XK), Room k (A.deeper (envOfC qual scope s.heap.objs.size f cdv)) → VSs (CxD P w K mg base N qual scope f cdv A outer s H E) (EU H E) O O' [] body m
def BodyF (P : Program) (w : World) (K : PySem.W.Frag) (mg : Str → Option Value) (base : Heap) (N : List Str) (qual : Str) (scope : Scope) (k : Nat) (body : List Stmt) (m : SM) : Prop :=
  ∀ (f : Addr) (cdv : Value) (A : Around) (outer : List Env) (s : Shared) (H : Hp) (E : XK), Room k (A.deeper (envOfC qual scope s.heap.objs.size f cdv)) → VSsF (CxD P w K mg base N qual scope f cdv A outer s H E) (EU H E) [] body m
def Meets (len : Nat) (N : List Str) (sp : FSp) (m : SM) : Prop := ∀ ds n Q xq, ds.length = len → sp.run ds n Q xq → m xq { nx := fun _ n' => Q .non n', rt := Q } (startD N ds) n
def MeetsF (len : Nat) (N : List Str) (sp : FSp) (m : SM) : Prop := ∀ ds n Q xq, ds.length = len → sp.run ds n Q xq → m xq { nx := fun _ _ => False, rt := Q } (startD N ds) n
def MeetsI (C : Str) (len : Nat) (N : List Str) (sp : FSp) (m : SM) : Prop := ∀ ds n Q xq, ds.length + 1 = len → sp.run ds n Q xq → m xq { nx := fun s' n' => ∃ fs, s'[0]? = some (some (.obj C fs)) ∧ Q (.obj C fs) n', rt := fun _ _ => False } (startD N (.obj C [] :: ds)) n
abbrev BindOk (x : Str) (params : Arguments) (body : List Stmt) (scope : Scope) (ps : List Str) : Prop := ∀ (kV doc pm : Value) (an : Option Addr) (cdv ct : Value) (us : List Value), us.length = ps.length → bindArgs (PySem.W.fnOf x x params body scope Value.none kV doc pm an cdv ct) { pos := us } = pure (ps.zip us)
theorem gfn {N ps : List Str} {k : Nat} {sp : FSp} {m : SM} {O' : List Nat} (F : FunD K x x params body scope [] [] f fd) (hg : mg x = some (.ref f)) (Sc : FnScope N ps scope) (hb : BindOk x params body scope ps)
    (B : Body P w K mg base N x scope k [] O' body m) (hm : Meets ps.length N sp m) : GFn P w K mg base x (k + 1) ps (lift K ps.length sp) :=
  ⟨f, fd, hg, F.kp, F.bindsN hb, dfn F Sc (fun cdv A outer s H E hr => B f cdv A outer s H E hr) hm⟩
theorem gfnF {N ps : List Str} {k : Nat} {sp : FSp} {m : SM} (F : FunD K x x params body scope [] [] f fd) (hg : mg x = some (.ref f)) (Sc : FnScope N ps scope) (hb : BindOk x params body scope ps)
    (B : BodyF P w K mg base N x scope k body m) (hm : MeetsF ps.length N sp m) : GFn P w K mg base x (k + 1) ps (liftF K ps.length sp) :=
  ⟨f, fd, hg, F.kp, F.bindsN hb, dfnF F Sc (fun cdv A outer s H E hr => B f cdv A outer s H E hr) hm⟩
end
end DL
namespace DL
open PySem PySem.Spec PyProof.Rows L2
variable [TabC]
/-! ### classes -/
def GMk (P : Program) (w : World) (K : PySem.W.Frag) (mg : Str → Option Value) (base : Heap) (x : Str) (C : Str) (k : Nat) (ps : List Str) (dds : List D) (sp : FSp) : Prop := ∃ f fd us dvs, mg x = some (.ref (He.ga K C)) ∧ Mk K (He.ga K C) f ∧ Binds K fd ps us ∧ Vals dvs us ∧ (∀ aS H A, RepL K aS H A dds dvs) ∧
  (∀ ds n Q xq, sp.run ds n Q xq → sp.run ds n (fun d n' => (∃ fs, d = .obj C fs) ∧ Q d n') xq) ∧ FnOk P w K mg base (CX P w) k f fd ps (liftI K C ps.length sp)
section
variable {X : Cx} {E : XK} {O : List Nat} {e o : Expr} {es : List Expr} {mo : EM D} {ml : EM (List D)} {pos p apos : Pos} {x m : Str} {C : Str} {ps : List Str} {k k' : Nat} {sp : FSp} {dds : List D}
theorem vf_mk (tk : TK X E) {len : Nat} (hl : ps.length = len) (G : GMk X.prog X.w X.K X.mg X.base x C k ps dds sp) (hr : Room k' X.A) (hk : k + 1 ≤ k') (hg : Gl X x) (ha : VA Rep X E O (e :: es) ml) (hdb : (x == ("__debug__" : Str)) = false := by decide)
    (he : starEach (e :: es) X.env = (false, eval e X.env) :: starEach es X.env := by rfl) (hpl : (backTo pos (starEach es X.env)).any (·.1) = false := by rfl) : VF X E O (.Call (.Name x p) (e :: es) [] pos) (eMake len sp dds ml) := by
  subst hl
  obtain ⟨f, fd, us, dvs, h1, h2, h3, h4, h5, h6, h7⟩ := G
  exact vf_make tk h2 h7 (DL.Room.le hr hk) hg h1 h3 h4 h5 h6 ha hdb he hpl
end
end DL
namespace DL
open PySem PySem.Spec PyProof.Rows L2
variable [TabC]
def sSetF (i : Nat) (m : EM D) : SM := fun xq de s n => i < s.length ∧ sSet i m xq de s n
def sParFF (i j : Nat) (ma mb : EM D) : SM := fun xq de s n => i < s.length ∧ j < s.length ∧ sPar i j ma mb (fun _ _ => False) de s n
def sParEF (i j : Nat) (ma mb : EM D) : SM := fun xq de s n => j < s.length ∧ sPar i j ma mb xq de s n
def eOwn (i : Nat) : EM (List D) := fun xq s n Q => ∃ ds, s[i]? = some (some (.lst ds)) ∧ Q ds n
def GOk (g : DG) : Prop := ∀ d s Q, g d s Q → ∃ s', Q s'
def GsOk (g : DGs) (n : Nat) : Prop := ∀ ds s Q, g ds s Q → ds.length = n ∧ ∃ s', Q s'
theorem gok_nm {i : Nat} : GOk (gNm i) := fun d s Q h => ⟨_, h⟩
theorem gsok_nil : GsOk gsNil 0 := fun ds s Q ⟨e, q⟩ => ⟨by rw [e]; rfl, _, q⟩
theorem gsok_cons {g : DG} {r : DGs} {n : Nat} (h : GOk g) (h2 : GsOk r n) : GsOk (gsCons g r) (n + 1) := fun ds s Q ⟨d, dr, e, q⟩ => by
  obtain ⟨s', q⟩ := h _ _ _ q
  obtain ⟨e2, q⟩ := h2 _ _ _ q
  exact ⟨by rw [e, List.length_cons, e2], q⟩
section
variable {X : Cx} {E : XK} {O OL : List Nat} {a b c e : Expr} {ma mb mc m : EM D} {pos : Pos} {i j : Nat} {x y : Str}
theorem vs_parEF {px py pt : Pos} {kt k2 pt2} (hi : i ∉ O) (hj : j ∉ O) (hj0 : j ≠ 0) (hc : X.calm = true) (hN : X.N.Nodup) (hNi : X.N[i]? = some x) (hNj : X.N[j]? = some y) (hij : i ≠ j) (hx : X.env.scope.names.lookup x = some .local) (hy : X.env.scope.names.lookup y = some .local)
    (ha : VE X E O a ma) (hb : VF X E O b mb) (hw : swappedStores [.Tuple [.Name x px, .Name y py] kt pt] (.Tuple [a, b] k2 pt2) X.env = pure (some [x, y]))
    (hs : swapsWithSole [.Tuple [.Name x px, .Name y py] kt pt] (.Tuple [a, b] k2 pt2) pos.line X.env = pure false := by rfl) (hs1 : starEach [a, b] X.env = (false, eval a X.env) :: starEach [b] X.env := by rfl) (hs2 : starEach [b] X.env = (false, eval b X.env) :: starEach [] X.env := by rfl) :
    VS X E O (j :: O) OL (.Assign [.Tuple [.Name x px, .Name y py] kt pt] (.Tuple [a, b] k2 pt2) pos) (sParEF i j ma mb) := by
  obtain ⟨mna, ta, pa, fa⟩ := ha
  obtain ⟨mnb, tb, pb, fb⟩ := hb
  refine ⟨_, ps_par hc hN hNi hNj hij hx hy (pa_cons pa (pa_cons pb pa_nil hs2) hs1) hw hs, fun aS A0 H0 σ H s n xq de De S L k h => ?_⟩
  obtain ⟨hl2, h⟩ := h
  refine fa aS A0 H0 σ H s n _ _ S L (mna _ _ _ _ _ (fun d1 n1 q v1 H1 k1 st1 r1 => ?_) h)
  have S1 := S.step k1 st1
  refine fb aS _ H0 σ H1 s n1 _ _ S1 L (mnb _ _ _ _ _ (fun d2 n2 q2 p2 H2 z2 k2 st2 o2 => ?_) q)
  refine ⟨_, _, rfl, k.nx _ _ _ _ ((S1.set hi r1).own hj hj0 (by rw [List.length_set]; exact hl2) z2 k2 st2 ?_) q2⟩
  rw [AV.set hi]
  exact o2
end
section
variable {X : Cx} {E : XK} {O OB OL vs hid hs : List Nat} {tg e iter kx : Expr} {ifs : List Expr} {m me mk : EM D} {mi : EM (List D)} {mt : EM Bool} {mb : SM} {g : DG} {scope : Scope} {pos : Pos} {own : List (Str × Nat)} {ws : List Nat}
theorem xf_lc (hh : own.map (·.2) ++ hid = hs) (hc : X.calm = true) (hN : X.N.Nodup) (hi : VI X E O OB hid tg iter mi) (ok : BlkOk X.N X.env.scope scope own) (hown : ∀ j ∈ own.map (·.2), j ∉ OB) (hws : ∀ j ∈ ws, j ∈ own.map (·.2))
    (hg : ∀ c : Bk, VG (Cx.bk X scope c) OB ws tg g) (ht : ∀ c : Bk, VTs (Cx.bk X scope c) EF OB ifs mt) (he : ∀ c : Bk, VE (Cx.bk X scope c) EF OB e me) (hs' : ∀ x, foldedSetIterable iter X.env x = pure x := by intro _; rfl) :
    VF X E O (.ListComp e [⟨tg, iter, ifs, 0⟩] scope pos) (eLc mi hs g mt me) := hh ▸ vf_lc hc hN hi ok hown hws hg ht he hs'
theorem xf_dc (hh : own.map (·.2) ++ hid = hs) (hc : X.calm = true) (hN : X.N.Nodup) (hi : VI X E O OB hid tg iter mi) (ok : BlkOk X.N X.env.scope scope own) (hown : ∀ j ∈ own.map (·.2), j ∉ OB) (hws : ∀ j ∈ ws, j ∈ own.map (·.2))
    (hg : ∀ c : Bk, VG (Cx.bk X scope c) OB ws tg g) (ht : ∀ c : Bk, VTs (Cx.bk X scope c) EF OB ifs mt) (hk : ∀ c : Bk, VE (Cx.bk X scope c) EF OB kx mk) (he : ∀ c : Bk, VE (Cx.bk X scope c) EF OB e me) (hs' : ∀ x, foldedSetIterable iter X.env x = pure x := by intro _; rfl) :
    VF X E O (.DictComp kx e [⟨tg, iter, ifs, 0⟩] scope pos) (eDc mi hs g mt mk me) := hh ▸ vf_dc hc hN hi ok hown hws hg ht hk he hs'
/-- over a list that a slot owns -/
theorem vi_ownS {x : Str} {i : Nat} (hO : O.filter (· != i) = OB) (hi : i ∈ O) (hN : X.N[i]? = some x) (hv : Vis X.env.scope x) (hd : (x == ("__debug__" : Str)) = false := by decide) (hcd : (x == ("__classdict__" : Str)) = false := by decide) :
    VI X E O OB [i] tg (.Name x pos) (eOwn i) := hO ▸ vi_own hi hN hv hd hcd
end
end DL
namespace DL
open PySem PySem.Spec PyProof.Rows L2
variable [TabC]
/-! ### the draws -/
abbrev rAbs : List V → Hp → VK → Prop := fun xs H Q => ∃ i, xs = [.int i] ∧ Q (.int (if i < 0 then -i else i)) H
abbrev rInt1 : List V → Hp → VK → Prop := fun xs H Q => (∃ i, xs = [V.int i] ∧ Q (V.int i) H) ∨ ∃ k, xs = [V.bl k] ∧ Q (V.int (if k = true then 1 else 0)) H
abbrev rLenT (K : PySem.W.Frag) : List V → Hp → VK → Prop := fun xs H Q => ∃ x n, xs = [x] ∧ LenV K x H n ∧ Q (V.int (n : Nat)) H
abbrev rAdd : R2 := rI0 fun i j => .int (i + j)
abbrev rMul : R2 := rI CMul fun i j => .int (i * j)
abbrev rMod : R2 := rI (fun _ j => 0 < j) fun i j => .int (i % j)
abbrev rDiv : R2 := rI CDivW fun i j => .int (i / j)
abbrev rPow : R2 := rI CPow fun i j => .int (i ^ j.toNat)
def tS (K : PySem.W.Frag) (j : Int) : TE := tOp (rIxL K) (tVar 0) (tC (.int j))
def tPut (te : TE) (j : Int) : TS := tAsg te (gSub (tVar 0) (tC (.int j)) rSetL)
def t_take (K : PySem.W.Frag) : TS :=
  tSeq (tPut (tOp rAdd (tS K 4) (tC (.int 1))) 4)
  (tSeq (tWhile (tAnd (tTest (tOp rEq (tS K 2) (tC (.int 0)))) (tTest (tOp (rI0 fun i j => .bl (decide (i < j))) (tS K 1) (tCB (rLenT K) (tCons (tS K 0) tNil)))))
    (tSeq (tAsg (tCB rAbs (tCons (tOp (rIxL K) (tS K 0) (tS K 1)) tNil)) (gName 2))
    (tSeq (tPut (tOp rAdd (tS K 1) (tC (.int 1))) 1)
      (tIfS (tTest (tOp (rI0 fun i j => .bl (decide (j ≤ i))) (tVar 2) (tOp rPow (tC (.int 10)) (tC (.int 18))))) (tPut (tVar 2) 2)
        (tPut (tOp rMod (tCB rInt1 (tCons (tOp rAdd (tOp rAdd (tOp rMul (tS K 3) (tC (.int 131))) (tVar 2)) (tC (.int 1))) tNil)) (tC (.int 2147483647))) 3)))))
  (tSeq (tIfS (tTest (tOp (rI0 fun i j => .bl (decide (j < i))) (tS K 2) (tC (.int 0))))
      (tSeq (tAsg (tOp rMod (tCB rInt1 (tCons (tS K 2) tNil)) (tVar 1)) (gName 3)) (tSeq (tPut (tOp rDiv (tS K 2) (tVar 1)) 2) (tRet (tVar 3)))) tNext)
  (tSeq (tAsg (tOp rMod (tCB rInt1 (tCons (tOp rPow (tOp rAdd (tOp rAdd (tS K 3) (tOp rMul (tC (.int 7919)) (tS K 4))) (tC (.int 5))) (tC (.int 3))) tNil)) (tC (.int 1000000007))) (gName 4))
  (tSeq (tAsg (tOp rMod (tCB rInt1 (tCons (tOp rPow (tOp rAdd (tVar 4) (tOp rMul (tC (.int 31)) (tS K 4))) (tC (.int 3))) tNil)) (tC (.int 998244353))) (gName 4))
    (tRet (tOp rMod (tCB rInt1 (tCons (tOp rDiv (tVar 4) (tC (.int 3))) tNil)) (tVar 1)))))))
def sp_take (cl : Str → Addr) : FSp := ⟨fun ds n Q _ => ∃ k : Int, ds = [.st, .int k] ∧ 0 < k ∧ k < 2 ^ 32 ∧ n < 2 ^ 32 ∧ ∀ r : Int, 0 ≤ r → r < k → Q (.int r) (n + 1), fun _ _ _ _ _ hq ⟨k, h1, h2, h3, h4, h⟩ => ⟨k, h1, h2, h3, h4, fun r a b => hq _ _ (h r a b)⟩⟩
section
variable {K : PySem.W.Frag} {aS a0 : Addr} {σ : L2.St} {H : Hp} {i g m d : Int}
abbrev l5 (a0 : Addr) (i g m d : Int) : List V := [.ref a0, .int i, .int g, .int m, .int d]
theorem tS_0 {Q : VK} (h : σ[0]? = some (some (.ref aS))) (hs : H aS = some (.lst (l5 a0 i g m d))) (q : Q (.ref a0) H) : tS K 0 σ H Q := ⟨.ref aS, h, aS, _, 0, _, rfl, rfl, SqL.of hs, rfl, q⟩
theorem tS_1 {Q : VK} (h : σ[0]? = some (some (.ref aS))) (hs : H aS = some (.lst (l5 a0 i g m d))) (q : Q (.int i) H) : tS K 1 σ H Q := ⟨.ref aS, h, aS, _, 1, _, rfl, rfl, SqL.of hs, rfl, q⟩
theorem tS_2 {Q : VK} (h : σ[0]? = some (some (.ref aS))) (hs : H aS = some (.lst (l5 a0 i g m d))) (q : Q (.int g) H) : tS K 2 σ H Q := ⟨.ref aS, h, aS, _, 2, _, rfl, rfl, SqL.of hs, rfl, q⟩
theorem tS_3 {Q : VK} (h : σ[0]? = some (some (.ref aS))) (hs : H aS = some (.lst (l5 a0 i g m d))) (q : Q (.int m) H) : tS K 3 σ H Q := ⟨.ref aS, h, aS, _, 3, _, rfl, rfl, SqL.of hs, rfl, q⟩
theorem tS_4 {Q : VK} (h : σ[0]? = some (some (.ref aS))) (hs : H aS = some (.lst (l5 a0 i g m d))) (q : Q (.int d) H) : tS K 4 σ H Q := ⟨.ref aS, h, aS, _, 4, _, rfl, rfl, SqL.of hs, rfl, q⟩
theorem gs_put {j : Int} {jj : Nat} {v : V} {Q : L2.St → Hp → Prop} (h : σ[0]? = some (some (.ref aS))) (hs : H aS = some (.lst (l5 a0 i g m d))) (hj : ixN 5 j = some jj) (q : Q σ (upd H aS (.lst ((l5 a0 i g m d).set jj v)))) : gSub (tVar 0) (tC (.int j)) rSetL v σ H Q :=
  ⟨.ref aS, h, aS, _, j, jj, rfl, rfl, hs, hj, q⟩
theorem pow3 {x : Int} (h0 : 0 ≤ x) (h : x < 2 ^ 63) : CPow x 3 := ⟨by decide, by decide, by omega⟩
theorem pow3b {x d : Int} (h0 : 0 ≤ x) (h1 : x < 1000000007) (h2 : 0 ≤ d) (h3 : d < 2 ^ 33) : CPow (x + 31 * (d + 1)) 3 := pow3 (by omega) (by omega)
theorem ifT {p : Prop} [Decidable p] {A B : Prop} (h : p) (a : A) : if decide p = true then A else B := by rw [if_pos (decide_eq_true h)]; exact a
theorem ifF {p : Prop} [Decidable p] {A B : Prop} (h : ¬ p) (a : B) : if decide p = true then A else B := by rw [if_neg (by rw [decide_eq_true_eq]; exact h)]; exact a
/-- all but the state is as it was -/
def EqS (aS : Addr) (H H' : Hp) : Prop := ∀ b, b ≠ aS → H' b = H b
theorem EqS.refl : EqS aS H H := fun _ _ => rfl
theorem EqS.kp {H' : Hp} (k : EqS aS H H') : KpS aS H H' := fun b u e z => .of ((k b z).trans e)
theorem eq_put {H0 : Hp} {o : HO} (k : EqS aS H0 H) : EqS aS H0 (upd H aS o) := fun b z => by rw [upd_ne z]; exact k b z
theorem EqS.tabs {H' : Hp} {xs : List V} {T : List (Addr × Str)} (k : EqS aS H H') (hs : H aS = some (.lst xs)) (t : LamX.Tabs T H) : LamX.Tabs T H' := fun p hp => by
  obtain ⟨ps, h1, h2, h3⟩ := t p hp
  refine ⟨ps, (k _ fun z => by rw [z, hs] at h1; cases h1).trans h1, h2, fun pos cv hc => ?_⟩
  obtain ⟨c, e1, e2⟩ := h3 pos cv hc
  refine ⟨c, e1, (k _ fun z => ?_).trans e2⟩
  rw [z, hs] at e2
  have e2 : some (HO.lst xs) = some (HO.ext _) := e2
  cases e2
theorem EqS.tba {H' : Hp} {xs ys : List V} (k : EqS aS H H') (hs : H aS = some (.lst xs)) (hs' : H' aS = some (.lst ys)) (t : TbA H) : TbA H' := ⟨k.tabs hs t.1, fun b ps e => by
  have nb : b ≠ aS := fun z => by rw [z, hs'] at e; cases e
  rw [k b nb] at e
  exact t.2 b ps e⟩
theorem pure_take (cl : Str → Addr) (vs : List V) (H : Hp) (Q : VK) (E : XK) (h : lift K 2 (sp_take cl) vs H Q E) : t_take K { nx := fun _ H' => Q .non H', rt := Q } (L2.start ["_law_state", "_law_many", "_law_cell", "_law_digit", "_law_mixed"] vs) H := by
  obtain ⟨aS, A0, ds, n, xq, hl, r, st, av, L, k, e, hk0, hk1, hn, q⟩ := h
  subst e
  rw [RepL] at r
  obtain ⟨v1, vr, e1, r1, r⟩ := r
  rw [RepL] at r
  obtain ⟨v2, vr2, e2, r2, r⟩ := r
  rw [RepL] at r
  simp only [Rep] at r1 r2
  subst r e2 e1 r1 r2
  have q : ∀ (r : Int) H', 0 ≤ r → r < k → EqS aS H H' → StA K aS H' (n + 1) → Q (.int r) H' := fun r H' a b kp st => q r a b (.int r) H' kp.kp st rep_int
  obtain ⟨a0, cs, i, g, m, d, hs, ha, ⟨o, ho⟩, hi, hg, hm0, hm1, hd0, hd1, htb⟩ := st
  have sta : ∀ {H' : Hp} {i g m : Int}, EqS aS H H' → H' aS = some (.lst (l5 a0 i g m (d + 1))) → 0 ≤ i → 0 ≤ g → 0 ≤ m → m < 2147483647 → StA K aS H' (n + 1) := fun {H' i g m} kp e h1 h2 h3 h4 => ⟨a0, cs, i, g, m, d + 1, e, ha, ⟨o, (kp _ ha).trans ho⟩, h1, h2, h3, h4, by omega, by omega, kp.tba hs e htb⟩
  have z0 : ∀ {c e1 e2 : Option V}, ([some (.ref aS), some (.int k), c, e1, e2] : L2.St)[0]? = some (some (.ref aS)) := rfl
  -- the count
  refine tS_4 (σ := [some (.ref aS), some (.int k), none, none, none]) rfl hs ⟨d, 1, rfl, rfl, gs_put rfl hs rfl ?_⟩
  have hs1 : upd H aS (.lst ((l5 a0 i g m d).set 4 (.int (d + 1)))) aS = some (.lst (l5 a0 i g m (d + 1))) := upd_same
  have kp1 : EqS aS H (upd H aS (.lst ((l5 a0 i g m d).set 4 (.int (d + 1))))) := eq_put EqS.refl
  -- the loop
  refine ⟨fun μ σ' H' => ∃ (i g m : Int) (c : Option V), σ' = [some (.ref aS), some (.int k), c, none, none] ∧ H' aS = some (.lst (l5 a0 i g m (d + 1))) ∧ EqS aS H H' ∧ 0 ≤ i ∧ 0 ≤ g ∧ 0 ≤ m ∧ m < 2147483647 ∧ μ = (cs.length - i).toNat,
    ⟨_, i, g, m, none, rfl, hs1, kp1, hi, hg, hm0, hm1, rfl⟩, fun μ σ' H' w => ?_⟩
  obtain ⟨i, g, m, c, rfl, hs, kp, hi, hg, hm0, hm1, hμ⟩ := w
  have ho' : H' a0 = some (.frz o (.lst (cs.map V.int))) := (kp _ ha).trans ho
  have rest : tSeq (tIfS (tTest (tOp (rI0 fun i j => .bl (decide (j < i))) (tS K 2) (tC (.int 0))))
      (tSeq (tAsg (tOp rMod (tCB rInt1 (tCons (tS K 2) tNil)) (tVar 1)) (gName 3)) (tSeq (tPut (tOp rDiv (tS K 2) (tVar 1)) 2) (tRet (tVar 3)))) tNext)
    (tSeq (tAsg (tOp rMod (tCB rInt1 (tCons (tOp rPow (tOp rAdd (tOp rAdd (tS K 3) (tOp rMul (tC (.int 7919)) (tS K 4))) (tC (.int 5))) (tC (.int 3))) tNil)) (tC (.int 1000000007))) (gName 4))
    (tSeq (tAsg (tOp rMod (tCB rInt1 (tCons (tOp rPow (tOp rAdd (tVar 4) (tOp rMul (tC (.int 31)) (tS K 4))) (tC (.int 3))) tNil)) (tC (.int 998244353))) (gName 4))
      (tRet (tOp rMod (tCB rInt1 (tCons (tOp rDiv (tVar 4) (tC (.int 3))) tNil)) (tVar 1))))) { nx := fun _ H' => Q .non H', rt := Q } [some (.ref aS), some (.int k), c, none, none] H' := by
    refine tS_2 rfl hs ⟨g, 0, rfl, rfl, _, rfl, ?_⟩
    by_cases hg0 : 0 < g
    · refine ifT hg0 ?_
      refine tS_2 rfl hs (.inl ⟨g, rfl, .int k, rfl, g, k, rfl, rfl, hk0, ?_⟩)
      refine tS_2 rfl hs ⟨.int k, rfl, g, k, rfl, rfl, ⟨hk0, ?_⟩, gs_put rfl hs rfl ⟨.int (g % k), rfl, q _ _ (Int.emod_nonneg _ (by omega)) (Int.emod_lt_of_pos _ hk0) (eq_put kp) (sta (eq_put kp) upd_same hi (Int.ediv_nonneg hg (by omega)) hm0 hm1)⟩⟩
      have : k.natAbs < 2 ^ 32 := by omega
      have h2 : k.natAbs.log2 < 32 := (Nat.log2_lt (by omega)).mpr this
      omega
    · refine ifF hg0 ?_
      have hp1 : 0 ≤ (m + 7919 * (d + 1) + 5) := by omega
      refine tS_3 rfl hs (tS_4 rfl hs ⟨7919, d + 1, rfl, rfl, .inl ⟨by decide, by decide⟩, m, _, rfl, rfl, _, 5, rfl, rfl, _, 3, rfl, rfl, pow3 (by omega) (by omega), .inl ⟨_, rfl, _, 1000000007, rfl, rfl, (show (0 : Int) < 1000000007 by decide), ?_⟩⟩)
      have x0 := Int.emod_nonneg ((m + 7919 * (d + 1) + 5) ^ (3 : Int).toNat) (show (1000000007 : Int) ≠ 0 by decide)
      have x1 := Int.emod_lt_of_pos ((m + 7919 * (d + 1) + 5) ^ (3 : Int).toNat) (show (0 : Int) < 1000000007 by decide)
      refine ⟨.int _, rfl, tS_4 rfl hs ⟨31, d + 1, rfl, rfl, .inl ⟨by decide, by decide⟩, _, _, rfl, rfl, _, 3, rfl, rfl, pow3b x0 x1 hd0 (by omega), .inl ⟨_, rfl, _, 998244353, rfl, rfl, (show (0 : Int) < 998244353 by decide), ?_⟩⟩⟩
      refine ⟨.int _, rfl, _, 3, rfl, rfl, ⟨by decide, by decide +kernel⟩, .inl ⟨_, rfl, .int k, rfl, _, k, rfl, rfl, hk0, q _ _ (Int.emod_nonneg _ (by omega)) (Int.emod_lt_of_pos _ hk0) kp (sta kp hs hi hg hm0 hm1)⟩⟩
  refine tS_2 rfl hs ⟨rfl, _, rfl, ?_⟩
  by_cases hg0 : g = 0
  · refine ifT (by rw [hg0]) ?_
    refine tS_1 rfl hs (tS_0 rfl hs ⟨.ref a0, cs.length, rfl, .inl ⟨_, .inl (.inr ⟨o, ho'⟩), by simp⟩, i, cs.length, rfl, rfl, _, rfl, ?_⟩)
    by_cases hlt : i < cs.length
    · refine ifT hlt ?_
      obtain ⟨j, rfl⟩ : ∃ j : Nat, i = j := ⟨i.toNat, by omega⟩
      have hj : j < cs.length := by omega
      have hat : atI (cs.map V.int) (j : Int) = some (.int cs[j]) := by
        unfold atI ixN
        rw [if_pos hi, List.length_map, if_pos hlt]
        simp [hj]
      refine ⟨fun σ' H' => ∃ (i' g m : Int) (c : Option V), σ' = [some (.ref aS), some (.int k), c, none, none] ∧ H' aS = some (.lst (l5 a0 i' g m (d + 1))) ∧ EqS aS H H' ∧ i' = j + 1 ∧ 0 ≤ g ∧ 0 ≤ m ∧ m < 2147483647, fun σ' H' z => ?_, ?_⟩
      · obtain ⟨i', g, m, c, e1, e2, e3, e4, e5, e6, e7⟩ := z
        exact ⟨(cs.length - i').toNat, by omega, i', g, m, c, e1, e2, e3, by omega, e5, e6, e7, rfl⟩
      · refine tS_0 rfl hs (tS_1 rfl hs ⟨a0, _, j, .int cs[j], rfl, rfl, .inl (.inr ⟨o, ho'⟩), hat, cs[j], rfl, ?_⟩)
        have hc0 : 0 ≤ (if cs[j] < 0 then -cs[j] else cs[j]) := by split <;> omega
        refine tS_1 (σ := [some (.ref aS), some (.int k), some (.int (if cs[j] < 0 then -cs[j] else cs[j])), none, none]) rfl hs ⟨j, 1, rfl, rfl, gs_put rfl hs rfl ?_⟩
        have hs2 : upd H' aS (.lst ((l5 a0 j g m (d + 1)).set 1 (.int (j + 1)))) aS = some (.lst (l5 a0 (j + 1) g m (d + 1))) := upd_same
        have kp2 : EqS aS H (upd H' aS (.lst ((l5 a0 j g m (d + 1)).set 1 (.int (j + 1))))) := eq_put kp
        refine ⟨.int _, rfl, 10, 18, rfl, rfl, ⟨by decide, by decide, by decide⟩, _, _, rfl, rfl, _, rfl, ?_⟩
        by_cases hbig : (10 : Int) ^ (18 : Int).toNat ≤ (if cs[j] < 0 then -cs[j] else cs[j])
        · refine ifT hbig ?_
          exact ⟨.int _, rfl, gs_put rfl hs2 rfl ⟨j + 1, _, m, _, rfl, upd_same, eq_put kp2, rfl, hc0, hm0, hm1⟩⟩
        · refine ifF hbig ?_
          refine tS_3 rfl hs2 ⟨m, 131, rfl, rfl, .inr ⟨by decide, by decide⟩, .int _, rfl, _, _, rfl, rfl, _, 1, rfl, rfl, .inl ⟨_, rfl, _, 2147483647, rfl, rfl, (show (0 : Int) < 2147483647 by decide), gs_put rfl hs2 rfl ⟨j + 1, g, _, _, rfl, upd_same, eq_put kp2, rfl, hg, Int.emod_nonneg _ (by decide), Int.emod_lt_of_pos _ (by decide)⟩⟩⟩
    · exact ifF hlt rest
  · exact ifF (fun z => hg0 (by cases z; rfl)) rest
end
end DL
namespace DL
open PySem PySem.Spec PyProof.Rows L2
variable [TabC]
/-! ### the first statement of a law -/
abbrev rListT (K : PySem.W.Frag) : List V → Hp → VK → Prop := fun xs H Q => ∃ p ys, xs = [.ref p] ∧ (SqL K H p ys ∨ SqT K H p ys) ∧ ∀ l, H l = none → Q (.ref l) (upd H l (.lst ys))
def t_fresh (K : PySem.W.Frag) : TS := tRet (tLst (tCons (tCB (rListT K) (tCons (tSl (rSlL K) (tVar 0) tNoPart (tPart (tC (.int 40)))) tNil)) (tCons (tC (.int 0)) (tCons (tC (.int 0)) (tCons (tC (.int 0)) (tCons (tC (.int 0)) tNil))))))
def spFresh (K : PySem.W.Frag) : Sp := fun vs H Q _ => ∃ (a : Addr) (ns : List Int), vs = [.ref a] ∧ SqL K H a (ns.map V.int) ∧ ∀ (l p : Addr) (cs : List Int) (H' : Hp), l ≠ p → H p = none → H l = none → Gr H H' → H' l = some (.lst (cs.map V.int)) → H' p = some (.lst (l5 l 0 0 0 0)) → Q (.ref p) H'
theorem cut_ints (ns : List Int) (lo hi : Option Int) : cutV (ns.map V.int) lo hi = (List.take (HT.sIx ns.length ns.length hi - HT.sIx ns.length 0 lo) (List.drop (HT.sIx ns.length 0 lo) ns)).map V.int := by
  unfold cutV
  rw [List.length_map, List.map_take, List.map_drop]
theorem pure_fresh {K : PySem.W.Frag} (vs : List V) (H : Hp) (Q : VK) (E : XK) (h : spFresh K vs H Q E) : t_fresh K { nx := fun _ H' => Q .non H', rt := Q } (L2.start ["_law_script"] vs) H := by
  obtain ⟨a, ns, rfl, hs, q⟩ := h
  refine ⟨.ref a, rfl, 40, rfl, a, _, rfl, hs, fun t ht => ?_⟩
  rw [cut_ints]
  generalize List.take (HT.sIx ns.length ns.length (some 40) - HT.sIx ns.length 0 none) (List.drop (HT.sIx ns.length 0 none) ns) = cs
  refine ⟨t, _, rfl, .inl (SqL.of upd_same), fun l hl => ⟨by rw [sizeLine_eq]; show 5 ≤ 16777216; decide, fun p hp => ?_⟩⟩
  have hlt : l ≠ t := fun z => by rw [z, upd_same] at hl; cases hl
  have hpl : p ≠ l := fun z => by rw [z, upd_same] at hp; cases hp
  have hpt : p ≠ t := fun z => by rw [z, upd_ne (Ne.symm hlt), upd_same] at hp; cases hp
  rw [upd_ne hlt] at hl
  rw [upd_ne hpl, upd_ne hpt] at hp
  have hl' : upd H t (.lst (cs.map V.int)) l = none := by rw [upd_ne hlt]; exact hl
  have hp' : upd (upd H t (.lst (cs.map V.int))) l (.lst (cs.map V.int)) p = none := by rw [upd_ne hpl, upd_ne hpt]; exact hp
  refine q l p cs _ (Ne.symm hpl) hp hl ((Gr.upd ht).trans ((Gr.upd hl').trans (Gr.upd hp'))) ?_ upd_same
  · rw [upd_ne (Ne.symm hpl)]
    exact upd_same
def spLaw (K : PySem.W.Frag) : Sp := fun vs H Q _ => ∃ (a : Addr) (ns : List Int), vs = [.ref a] ∧ SqL K H a (ns.map V.int) ∧ TbA H ∧ ∀ H', Q (.bl true) H'
/-- what stands at d is locked from here on -/
theorem pss_lock1 {X : Cx} {st : List Stmt} {t : TS} (h : PSs X st t) : PSs X st (fun D σ H => ∃ d u, H d = some u ∧ Mut (some u) ∧ ∀ od, t D σ (upd H d (.frz od u))) :=
  ⟨fun pins s σ H D inv ⟨d, u, at_, mu, run⟩ => Exists.elim (inv.lock at_ mu) fun od inv' => h.run pins s σ _ D inv' (run od)⟩
abbrev tFirst (K : PySem.W.Frag) : TS := tAsg (tCall (spFresh K) [] ET (tCons (tVar 0) tNil)) (gName 1)
section
variable {P : Program} {w : World} {K : PySem.W.Frag} {mg : Str → Option Value} {base : Heap} {x : Str} {params : Arguments} {st : Stmt} {rest : List Stmt} {scope : Scope} {f : Addr} {fd : FuncData}
end
end DL
namespace DL
open PySem PySem.Spec PyProof.Rows L2
variable [TabC]
theorem op_isBl {X : Cx} : OpR X (compareOp .Is) (fun x y H Q => ∃ a b, x = .bl a ∧ y = .bl b ∧ Q (.bl (a == b)) H) := fun _ s _ _ _ _ _ _ _ I rx ry ⟨a, b, ex, ey, q⟩ => by
  subst ex ey
  cases rx
  cases ry
  show wpAny _ _ ((isSame (Value.bool a) (Value.bool b)) >>= fun z => pure (Value.bool z)) _ _ s
  have e : (Value.bool a == Value.bool b) = (a == b) := by cases a <;> cases b <;> rfl
  have e2 : isSame (Value.bool a) (Value.bool b) = pure (a == b) := by
    rw [← e]
    rfl
  rw [e2]
  exact wpAny_bind (wpAny_pure (wpAny_pure (fin_bl I q rfl)))
def dIs (x y : D) : Option D := match x, y with
  | .bl a, .bl b => some (.bl (a == b))
  | _, _ => dIsN x y
theorem od_is {X : Cx} : OpD X (compareOp .Is) dIs := by
  obtain ⟨r, ho, hr⟩ := od_isN (X := X)
  refine ⟨_, OpR.or op_isBl ho, fun aS H A n d1 d2 d v1 v2 Q c r1 r2 e w => ?_⟩
  unfold dIs at e
  split at e
  · cases e
    exact .inl ⟨_, _, repB_bl r1, repB_bl r2, w _ H KpS.refl c.st rep_bl⟩
  · exact .inr (hr aS H A n d1 d2 d v1 v2 Q c r1 r2 e w)
section
variable {X : Cx} {E : XK} {O OB OL vs hid hs : List Nat} {tg e iter kx : Expr} {ifs : List Expr} {m me mk : EM D} {mi : EM (List D)} {mt : EM Bool} {mb : SM} {g : DG} {scope : Scope} {pos : Pos} {own : List (Str × Nat)} {ws : List Nat}
end
end DL
namespace ES
open PySem PySem.Spec PyProof.Rows L2
/-! ### the first line of an own error's __init__: super().__init__(..) -/
/-- no new table -/
def NoT (H H' : Hp) : Prop := ∀ b ps, H' b = some (.tbl ps) → H b = some (.tbl ps)
theorem NoT.upd {H H' : Hp} {p : Addr} {o : HO} (k : NoT H H') (ho : ∀ ps, o ≠ .tbl ps) : NoT H (L2.upd H' p o) := fun b ps e => by
  by_cases z : b = p
  · rw [z, upd_same] at e
    exact (ho _ (Option.some.inj e)).elim
  · rw [upd_ne z] at e
    exact k b ps e
theorem NoT.refl (H : Hp) : NoT H H := fun _ _ h => h
/-- a wrapper that is kept in sight -/
def mwO (u a : Addr) : HO := .ext fun h => h.get? u = some (PySem.W.kxs_mw VI a)
theorem mwO_ok {P : Program} {w : World} {H : Hp} {h : Heap} {u a : Addr} (e : h.get? u = some (PySem.W.kxs_mw VI a)) : ObjOk P w H h u (mwO u a) := ⟨e, ⟨_, e⟩, fun h1 h2 z k => k _ z⟩
theorem mwO_at {P : Program} {w : World} {H : Hp} {h : Heap} {u a : Addr} (ok : HOk P w H h) (e : H u = some (mwO u a)) : h.get? u = some (PySem.W.kxs_mw VI a) := (ok u _ e).1
section
variable {X : Cx} {pins : List (Addr × Obj)} {σ : L2.St} {H : Hp} {s : Shared} {a C u : Addr} {E : Value → Shared → Prop} {A : Around}
theorem run_mw {us : List Value} {Q : Value → Shared → Prop} (T : OexC X.K C) (I : Inv X pins σ H s) (e : H a = some (exo a C none)) (hu : s.heap.get? u = some (PySem.W.kxs_mw VI a)) (hl : us.length ≤ sizeLine) (h : ∀ s', Inv X pins σ H s' → Q .none s') :
    wpAny (model X.prog X.w) A (call (.ref u) us) Q E s := by
  obtain ⟨nm, q, N, bs, bm, sn, sub, ab, col, dd, k0, k1, k2, k3, k5, hC, hbm⟩ := T.cls
  obtain ⟨t1, ho⟩ := exo_at I.hok e
  obtain ⟨hp, g, d, t, os⟩ := s
  have kC : hp.get? C = _ := I.kIn _ _ hC
  have same : upd H a (exo a C none) = H := funext fun b => by
    by_cases hb : b = a
    · rw [hb, upd_same, e]
    · rw [upd_ne hb]
  refine wpAny_call (codeAny_of_tree ?_)
  show wpAny _ A.in1 (callAny (.ref u) ⟨us, []⟩) _ _ _
  unfold callAny
  refine wpAny_bind (wpAny_load hu ?_)
  simp only [PySem.W.kxs_mw]
  refine PySem.W.KFB.if_so (by decide) ?_
  refine wpAny_bind (PySem.W.check_bound_init F.excBase_ValueError.toExcCallFacts kC ho rfl ?_)
  refine wpAny_bind (wpAny_pure (wpAny_pure ⟨plainId_quiet F.excBase_ValueError.init.plain _, codeAny_builtin F.excBase_ValueError.initEntry ?_⟩))
  refine PySem.W.exc_init_tree (cls := .ref C) (t0 := t1) (dv := none) (c2 := .none) (c3 := .none) (b4 := .bool false) ho hl fun h' k hx _ => ?_
  have J := I.write (t' := t) (x := a) (e := a) (o := exo a C none) (by rw [e]; exact True.intro) (.inl rfl) k ⟨_, hx⟩ (exo_ok hx)
  rw [same] at J
  exact h _ J
end
end ES
namespace ES
open PySem PySem.Spec PyProof.Rows L2
/-- what the written part says of the __init__ (at f) of the error class at C, the function F of the text -/
structure SupF (P : Program) (K : PySem.W.Frag) (C f : Addr) (F : NdefX.NF) : Prop where
  lk : ∃ (oc : Value) (od : Option Addr) (doc pm ctv : Value) (osl : Array (Option Value)), K.lookup f = some ⟨oc, od, .func (F.fd doc pm ctv), osl⟩
  code : PySem.W.codeIn K (.ref F.c) F.qual = true
  file : ∃ (ccl : Value) (cdd : Option Addr) (vs : Array Value) (ccs : Array (Option Value)) (fl : Str) (tf : Tok), K.lookup F.c = some ⟨ccl, cdd, .fields vs, ccs⟩ ∧ vs[2]? = some (.str fl tf) ∧ ((P.main.file : Str) == fl) = true
  cell : ∃ (cc : Addr) (o : Value) (d : Option Addr) (sl : Array (Option Value)), F.cl = [(("__class__" : Str), cc)] ∧ K.lookup cc = some ⟨o, d, .cell (some (.ref C)), sl⟩
  own : PySem.W.mroIn K C (.ref C) = some true
  ini : PySem.W.ks_superIn K C C "__init__" = some (some (.builtin VI))
  ve : PySem.W.subIn K (.ref C) (.type "ValueError") = some true
  third : PySem.W.nsIn K cStatics "thirdparty.any" = some none
  top : (P.main.scope.names.lookup ("super" : Str)).isSome = false
/-- its scope -/
structure SupS (slf0 : Str) (N ps : List Str) (F : NdefX.NF) : Prop where
  sc : NdefX.NScope N ps ["__class__"] F.scope
  sup : F.scope.names.lookup ("super" : Str) = some .globalImplicit
  cls : F.scope.names.lookup ("__class__" : Str) = some .free
  slf : F.scope.names.lookup slf0 = some .local
  par : ∃ ar : Arg, (F.params.posonlyargs ++ F.params.args).head? = some ar ∧ ar.arg = slf0
  fst : N[0]? = some slf0
abbrev supCall (e : Expr) (p0 p1 p2 p3 : Pos) : Expr := .Call (.Attribute (.Call (.Name "super" p0) [] [] p1) "__init__" p2) [e] [] p3
section
variable {CX : CXT} {P : Program} {w : World} {K : PySem.W.Frag} {mg : Str → Option Value} {base : Heap} {N ps : List Str} {F : NdefX.NF} {f C a : Addr} {A : Around} {outer : List Env} {s0 : Shared} {H0 : Hp} {E0 : XK} {self : Str}
theorem sup_line {σ : L2.St} {H : Hp} {s : Shared} {e : Expr} {ta : TA} {body : List Stmt} {p0 p1 p2 p3 : Pos} {Q : Value → Shared → Prop} {E : Value → Shared → Prop} {pl : Sem Bool} (T : OexC K C) (SF : SupF P K C f F) (SS : SupS self N ps F) (hm : mg "super" = none)
    (I : Inv (NdefX.ncx CX P w K mg base N F f A outer s0 H0 E0) [] σ H s) (h0 : σ[0]? = some (some (.ref a))) (ea : H a = some (exo a C none))
    (ha : PA (NdefX.ncx CX P w K mg base N F f A outer s0 H0 E0) [e] ta)
    (hta : ∀ H', (∀ b u, H b = some u → H' b = some u) → NoT H H' → ta σ H' fun vs H1 => vs.length ≤ 1000 ∧ H1 a = some (exo a C none) ∧ (∀ b u, H' b = some u → H1 b = some u) ∧ ∀ s', Inv (NdefX.ncx CX P w K mg base N F f A outer s0 H0 E0) [] σ H1 s' → Q .none s')
    (hE : E = (NdefX.ncx CX P w K mg base N F f A outer s0 H0 E0).xe)
    (he : starEach [e] (NdefX.envF F f s0.heap.objs.size) = (false, eval e (NdefX.envF F f s0.heap.objs.size)) :: starEach [] (NdefX.envF F f s0.heap.objs.size))
    (hev : eval (supCall e p0 p1 p2 p3) (NdefX.envF F f s0.heap.objs.size) = (do
      let ov ← attributeBase (.Call (.Name "super" p0) [] [] p1) "__init__" (NdefX.envF F f s0.heap.objs.size) (eval (.Call (.Name "super" p0) [] [] p1) (NdefX.envF F f s0.heap.objs.size))
      standAt p2.atName
      let (g, first) ← holding [ov] (getMethod ov "__init__" pl)
      callWith p3 g first (backTo p3 (starEach [e] (NdefX.envF F f s0.heap.objs.size))) [])) :
    PySem.wpAt (model P w) (NdefX.ncx CX P w K mg base N F f A outer s0 H0 E0).A (.func body (NdefX.envF F f s0.heap.objs.size)) (eval (supCall e p0 p1 p2 p3) (NdefX.envF F f s0.heap.objs.size)) Q E s := by
  obtain ⟨cc, oc, dc, slc, ecl, lkc⟩ := SF.cell
  obtain ⟨ocf, odf, doc, pm, ctv, osl, lkf⟩ := SF.lk
  obtain ⟨ccl, cdd, vs, ccs, fl, tf, lkco, hvs, hfl⟩ := SF.file
  obtain ⟨ar, har, hself⟩ := SS.par
  have hkI : K.In s.heap := I.kIn
  obtain ⟨mL, hns, hloc⟩ := I.loc
  have kf : ∀ x, (NdefX.envF F f s0.heap.objs.size).kindOf x = F.scope.names.lookup x := fun x => rfl
  obtain ⟨u0, r0, lk0⟩ := hloc 0 self (.ref a) SS.fst h0 (.inl SS.slf)
  obtain rfl : u0 = Value.ref a := r0
  have hself0 : mL self = some (.ref a) := by
    rcases lk0 with ⟨_, q⟩ | ⟨q, _⟩
    · exact q
    · have q : F.scope.names.lookup self = some .cell ∨ F.scope.names.lookup self = some .free := q
      rw [SS.slf] at q
      rcases q with q | q <;> cases q
  obtain ⟨nm, qn, NN, bs, bm, sn, sub, ab, col, dd, k0, k1, k2, k3, k5, hC, hbm⟩ := T.cls
  obtain ⟨t1, hoa⟩ := exo_at I.hok ea
  have hclsC : PySem.W.clsIn K C = some { name := nm, bases := bs, mro := .ref C :: bm, ns := NN, qualname := qn, hasDict := true, slotNames := sn, subclasses := sub, abstract := ab, collection := col, hasDel := false } := by
    unfold PySem.W.clsIn
    rw [hC] <;> rfl
  have kC := hkI _ _ hC
  refine PySem.ks_wpAt_MethodCall (pl := pl) ?_ hev
  refine PySem.ks_wpAt_super_base (fd := F.fd doc pm ctv) (ar := ar) (cc := F.c) SS.sup SS.cls rfl rfl (hkI _ _ lkf) rfl har rfl (hkI _ _ lkco) rfl hvs hfl SF.top ?_
  obtain ⟨mb, hb1, hb2⟩ := I.mod.blt
  refine PySem.W.ks_loadName_global SS.sc.kind SS.sup (Calls.loadGlobal_builtin (I.mod.glob.keeps I.bk) hm (hb1.keeps I.bk) ((hb2 _ (by decide)).trans PyProof.Rows.Boot.«super») ⟨rfl, ?_⟩)
  refine wpAny_loadName_free SS.sc.kind SS.cls (c := cc) (by show F.cl.lookup _ = _; rw [ecl]; rfl) ⟨_, hkI _ _ lkc, rfl⟩ ?_
  rw [hself]
  refine wpAny_loadName_local SS.sc.kind SS.slf hns hself0 ?_
  refine PySem.ks_wpAny_isType_cls kC rfl ⟨rfl, ?_⟩
  obtain ⟨hh, g, d, t, os⟩ := s
  refine PySem.ks_wpAny_call_super kC rfl hoa rfl (fun c z => by cases z) (PySem.W.looks_mroIn hkI SF.own) fun h' hso keep => ?_
  have I1 : Inv (NdefX.ncx CX P w K mg base N F f A outer s0 H0 E0) [] σ H ⟨h', g, d, t, os⟩ := I.kept (t' := t) keep
  have hoa1 := keep _ _ hoa
  have IA : PySem.W.InstAt h' a { cls := .ref C, dict := none, data := .fields #[.ref t1, .none, .none, .none, .bool false, .none] } C none := ⟨hoa1, rfl, rfl, trivial⟩
  have hsup : PySem.W.alongIn K "__init__" (((Value.ref C :: bm).dropWhile (· != .ref C)).drop 1) = some (some (.builtin VI)) := by
    have z := SF.ini
    unfold PySem.W.ks_superIn at z
    rw [hclsC] at z
    exact z
  refine PySem.W.kxs_getMethod PySem.W.kxs_ValueError hso (PySem.W.looks_opaque I1.kIn SF.third) (l₀ := .ref C :: bm) (fun A Q E s k q => wpAny_bind ((PySem.W.looks_clsIn I1.kIn hclsC) A _ E s k (wpAny_pure q))) rfl I1.kIn hsup
    (IA.type.andThen (PySem.W.looks_subIn I1.kIn SF.ve)) (PySem.W.ks_ne I1.kIn IA hclsC) rfl ?_
  -- the wrapper is laid
  have hgot : (h'.push (PySem.W.kxs_mw VI a)).get? h'.objs.size = some (PySem.W.kxs_mw VI a) := Heap.get?_push_at rfl rfl
  have hn : H h'.objs.size = none := I1.hok.fresh (Nat.le_refl _)
  have I2 : Inv (NdefX.ncx CX P w K mg base N F f A outer s0 H0 E0) [] σ (upd H h'.objs.size (mwO h'.objs.size a)) ⟨h'.push (PySem.W.kxs_mw VI a), g, d, t + 1, os⟩ :=
    I1.laid (t' := t + 1) (a := h'.objs.size) (o := mwO h'.objs.size a) (fun b o z => Heap.get?_push_of_some _ z) (Nat.le_refl _) (mwO_ok hgot)
  rw [he]
  refine PySem.W.kxs_callWith (i := VI) (x := a) rfl ?_
  refine PySem.Calls.evalArgs_plain ?_
  show wpAny _ _ (spliced (backTo p3 ((false, eval e (NdefX.envF F f s0.heap.objs.size)) :: starEach [] (NdefX.envF F f s0.heap.objs.size)))) _ _ _
  rw [← he, hE]
  refine thn (ha.run _ [] _ σ _ _ I2 (hta _ (fun b u z => by rw [upd_ne (ne_of_none z hn)]; exact z) ((NoT.refl H).upd fun ps z => by have z : HO.ext _ = HO.tbl ps := z; cases z))) fun us s1 ⟨vs, H1, I3, r1, hl, ea1, k1, q⟩ => ?_
  have hmw : s1.heap.get? h'.objs.size = some (PySem.W.kxs_mw VI a) := mwO_at I3.hok (k1 _ _ upd_same)
  refine ⟨hmw, ?_⟩
  exact run_mw T I3 ea1 hmw (by show us.length ≤ _; rw [← r1.length, sizeLine_eq]; omega) q
end
end ES
namespace ES
open PySem PySem.Spec PyProof.Rows L2
/-- what such an __init__ keeps: the object's dict holds fs (of the further arguments) -/
def spInit (C : Addr) (n : Nat) (fs : List V → List (Str × V)) : Sp := fun vs H Q _ => ∃ (a : Addr) (ws : List V), vs = .ref a :: ws ∧ ws.length = n ∧ H a = some (exo a C none) ∧
  ∀ (H' : Hp) (dx : Addr), (∀ b u, H b = some u → b ≠ a → H' b = some u) → NoT H H' → H dx = none → dx ≠ a → H' a = some (exo a C (some dx)) → H' dx = some (exd dx (fs ws)) → Q .non H'
section
variable {CX : CXT} {P : Program} {w : World} {K : PySem.W.Frag} {mg : Str → Option Value} {base : Heap} {N ps : List Str} {F : NdefX.NF} {f C : Addr} {slf0 : Str}
/-- an error's __init__ by its body: super().__init__(text), then the fields -/
theorem init_of {n k : Nat} {fs : List V → List (Str × V)} {x : Str} {rest : List Stmt} {p0 p1 p2 p3 p4 pc : Pos} {jc : Nat} {doc pm ctv oc : Value} {od : Option Addr} {osl : Array (Option Value)} (T : OexC K C) (SF : SupF P K C f F) (SS : SupS slf0 N ps F) (hm : mg "super" = none)
    (lk : K.lookup f = some ⟨oc, od, .func (F.fd doc pm ctv), osl⟩)
    (hb : F.body = .Expr (supCall (.Constant (.str x) jc pc) p0 p1 p2 p3) p4 :: rest) (hl : ps.length = n + 1)
    (hev : ∀ L, ∃ pl : Sem Bool, eval (supCall (.Constant (.str x) jc pc) p0 p1 p2 p3) (NdefX.envF F f L) = (do
      let ov ← attributeBase (.Call (.Name "super" p0) [] [] p1) "__init__" (NdefX.envF F f L) (eval (.Call (.Name "super" p0) [] [] p1) (NdefX.envF F f L))
      standAt p2.atName
      let (g, first) ← holding [ov] (getMethod ov "__init__" pl)
      callWith p3 g first (backTo p3 (starEach [.Constant (.str x) jc pc] (NdefX.envF F f L))) []))
    (hsw : ∀ L, swapsWith (supCall (.Constant (.str x) jc pc) p0 p1 p2 p3) none p4.line (NdefX.envF F f L) = pure false)
    (hrest : ∀ (A : Around) (outer : List Env) (s : Shared) (H : Hp) (E : XK), ∃ t, PSs (NdefX.ncx CX P w K mg base N F f A outer s H E) rest t ∧ ∀ (a : Addr) (ws : List V) (H1 : Hp) (D : Ends), ws.length = n → H1 a = some (exo a C none) →
      (∀ (dx : Addr) (H2 : Hp), H1 dx = none → dx ≠ a → (∀ b u, H1 b = some u → b ≠ a → H2 b = some u) → NoT H1 H2 → H2 a = some (exo a C (some dx)) → H2 dx = some (exd dx (fs ws)) → D.nx (NdefX.startF N (.ref a :: ws) [none]) H2) → t D (NdefX.startF N (.ref a :: ws) [none]) H1) :
    FnOk P w K mg base CX (k + 1) f (F.fd doc pm ctv) ps (spInit C n fs) := by
  have hlen : ∀ vs H Q E, spInit C n fs vs H Q E → vs.length = ps.length := fun vs H Q E ⟨a, ws, e, hw, _⟩ => by rw [e, List.length_cons, hw, hl]
  refine ⟨hlen, fun A outer s H args us vs Q E hr e0 hbd r hsp => ?_⟩
  have hvl := hlen _ _ _ _ hsp
  have lim : s.heap.NoLimit := e0.mod.nolimit.keeps fun b o z => (e0.bs b o z).1
  have KX : K.In s.heap := e0.mod.kin.keeps fun b o z => (e0.bs b o z).1
  obtain ⟨a, ws, ev, hws, ea, q⟩ := hsp
  subst ev
  obtain ⟨cc, occ, dcc, slc, ecl, lkc⟩ := SF.cell
  have CA : NdefX.CellsAt F.cl ["__class__"] [none] s.heap H := by
    refine ⟨rfl, fun y c z => ?_, fun y1 y2 c z1 z2 => ?_, fun i y z => ?_⟩
    · rw [ecl] at z
      have hc2 : c = cc := by
        simp only [List.lookup] at z
        split at z
        · exact (Option.some.inj z).symm
        · cases z
      subst hc2
      exact ⟨(e0.bs _ _ (e0.mod.kin _ _ lkc)).2, some (.ref C), _, KX _ _ lkc, rfl⟩
    · rw [ecl] at z1 z2
      simp only [List.lookup] at z1 z2
      split at z1
      · rename_i h1
        split at z2
        · rename_i h2
          exact (beq_iff_eq.mp h1).trans (beq_iff_eq.mp h2).symm
        · cases z2
      · cases z1
    · cases i with
      | zero =>
        have z : y = "__class__" := by simpa using z.symm
        subst z
        exact ⟨cc, by rw [ecl]; rfl, fun v z => by cases z⟩
      | succ i => simp at z
  refine codeAny_call_function hr.depth (KX _ _ lk) rfl SS.sc.co SS.sc.gen rfl (PySem.W.codeRec_of KX SF.code) (hbd _ _ _ _ ?_)
  refine wpAny_newFunctionEnv SS.sc.nocell (fun ⟨y, _⟩ hy => SS.sc.par y (List.of_mem_zip hy).1) (fun h1 hns hsb => ⟨lim.fresh _ hsb, ?_⟩) SS.sc.kind
  show codeAny _ _ (.func F.body (NdefX.envF F f s.heap.objs.size)) _ _
  refine PySem.ks_codeAny_funcAt ?_
  have kp : ∀ b o, s.heap.get? b = some o → h1.get? b = some o := fun b o z => hsb.extBut b o (Nat.ne_of_lt (Heap.lt_size z)) (Heap.get?_push_of_some _ z)
  obtain ⟨t, pt, ft⟩ := hrest A outer s H E
  have I : Inv (NdefX.ncx CX P w K mg base N F f A outer s H E) [] (NdefX.startF N (.ref a :: ws) [none]) H { s with heap := h1, toks := s.toks + (ps.zip us).length } := NdefX.inv_startN SS.sc hr.hd e0 hvl r CA hns kp
  obtain ⟨pl, hpl⟩ := hev s.heap.objs.size
  rw [hb]
  refine PySem.ks_wpAt_execs_cons (PySem.ks_wpAt_Expr_any ?_ I.quiet (hsw _))
  refine sup_line (ps := ps) (pl := pl) (ta := tCons (tC (.str x)) tNil) T SF SS hm I rfl ea (pa_cons pe_str pa_nil) (fun H' kH kT => ⟨show 1 ≤ 1000 by decide, kH _ _ ea, fun b u z => z, fun s' I' => ?_⟩) rfl rfl hpl
  refine wpAt_of_wpAny (wpAny_mono (pt.run [] s' _ H' { nx := fun _ H2 => Q .non H2, rt := Q } I' (ft a ws H' _ hws (kH _ _ ea) fun dx H2 ndx nea k2 kT2 e1 e2 => ?_)) (fun fl s2 hs => ?_) fun e2 s2 hs => hs)
  · refine q H2 dx (fun b u z nb => k2 b u (kH b u z) nb) (fun b ps z => kT b ps (kT2 b ps z)) ?_ nea e1 e2
    cases hd : H dx with
    | none => rfl
    | some u => rw [kH _ _ hd] at ndx; cases ndx
  · have fin : ∀ {σ' : L2.St} {H' : Hp} {v : V} {u : Value}, Inv (NdefX.ncx CX P w K mg base N F f A outer s H E) [] σ' H' s2 → L2.RelV v u → Q v H' → CE outer P w H s Q u s2 :=
      fun {σ' H' v u} J rv q => ⟨v, H', J.os, J.bare, J.base, J.hok, rv, q⟩
    cases fl with
    | ret u =>
      obtain ⟨v, σ', H', J, rv, z⟩ := hs
      exact fin J rv z
    | next =>
      obtain ⟨σ', H', J, z⟩ := hs
      exact fin (v := V.non) (u := Value.none) J rfl z
    | brk =>
      obtain ⟨_, _, _, z⟩ := hs
      exact False.elim z
    | cont =>
      obtain ⟨_, _, _, z⟩ := hs
      exact False.elim z
end
end ES
namespace ES
open PySem PySem.Spec PyProof.Rows L2
/-- fields by the names of parameters, the last one first -/
def fsGo {T : Type} : List (Str × T) → List Str → List T → List (Str × T)
  | acc, f :: fl, v :: vs => fsGo ((f, v) :: acc) fl vs
  | acc, _, _ => acc
def fsOf {T : Type} (fl : List Str) (vs : List T) : List (Str × T) := fsGo [] fl vs
theorem ono {e C : Addr} {d : Option Addr} : ∀ ps, exo e C d ≠ .tbl ps := fun ps z => by
  have z' : HO.ext _ = HO.tbl ps := z
  cases z'
theorem xno {dx : Addr} {fs : List (Str × V)} : ∀ ps, exd dx fs ≠ .tbl ps := fun ps z => by
  have z' : HO.ext _ = HO.tbl ps := z
  cases z'
section
variable {CX : CXT} {P : Program} {w : World} {K : PySem.W.Frag} {mg : Str → Option Value} {base : Heap} {N ps : List Str} {F : NdefX.NF} {f C : Addr} {slf0 : Str}
abbrev stF (slf0 fld y : Str) (p1 p2 p3 p4 : Pos) : Stmt := .Assign [.Attribute (.Name slf0 p1) fld p2] (.Name y p3) p4
/-- one field -/
theorem rest1 {fld y : Str} {p1 p2 p3 p4 : Pos} (T : OexC K C) (hf : PySem.W.findIn K (.ref C) fld = some none) (SS : SupS slf0 N ps F) (h1 : N[1]? = some y) (hy : F.scope.names.lookup y = some .local) (hd0 : (slf0 == ("__debug__" : Str)) = false) (hd1 : (y == ("__debug__" : Str)) = false) (hc0 : (slf0 == ("__classdict__" : Str)) = false) (hc1 : (y == ("__classdict__" : Str)) = false)
    (hsw : ∀ L, swapsWith (.Name y p3) (some (.Attribute (.Name slf0 p1) fld p2)) p4.line (NdefX.envF F f L) = pure false) (A : Around) (outer : List Env) (s : Shared) (H : Hp) (E : XK) :
    ∃ t, PSs (NdefX.ncx CX P w K mg base N F f A outer s H E) [stF slf0 fld y p1 p2 p3 p4] t ∧ ∀ (a : Addr) (ws : List V) (H1 : Hp) (D : Ends), ws.length = 1 → H1 a = some (exo a C none) →
      (∀ (dx : Addr) (H2 : Hp), H1 dx = none → dx ≠ a → (∀ b u, H1 b = some u → b ≠ a → H2 b = some u) → NoT H1 H2 → H2 a = some (exo a C (some dx)) → H2 dx = some (exd dx (fsOf [fld] ws)) → D.nx (NdefX.startF N (.ref a :: ws) [none]) H2) → t D (NdefX.startF N (.ref a :: ws) [none]) H1 := by
  refine ⟨_, pss_one (ps_ost (pe_var (i := 0) SS.fst (.inl SS.slf) hd0 hc0) (pe_var (i := 1) h1 (.inl hy) hd1 hc1) (hsw _)), fun a ws H1 D hl ea q => ?_⟩
  match ws, hl with
  | [v], _ =>
    refine ⟨v, rfl, .ref a, rfl, a, C, rfl, T, hf, .inl ⟨ea, fun dx nd na => q dx _ nd na (fun b u z nb => ?_) (((NoT.refl _).upd xno).upd ono) upd_same ?_⟩⟩
    · rw [upd_ne nb, upd_ne (ne_of_none z nd)]
      exact z
    · rw [upd_ne na, upd_same]
      rfl
end
end ES
namespace DL
open PySem PySem.Spec PyProof.Rows L2
variable [TabC]
/-! ### raise -/
/-- an error class of the program, made with the fields fl -/
def GEx (P : Program) (w : World) (K : PySem.W.Frag) (mg : Str → Option Value) (base : Heap) (x : Str) (k : Nat) (fl : List Str) : Prop := ∃ (fI : Addr) (fd : FuncData) (ps : List Str), mg x = some (.ref (He.ga K x)) ∧ OexC K (He.ga K x) ∧
  PySem.W.findIn K (.ref (He.ga K x)) "__init__" = some (some (.ref fI)) ∧ PySem.W.typeIn K (.ref fI) = some (.type "function") ∧ Binds K fd ps [] ∧ FnOk P w K mg base (CX P w) k fI fd ps (ES.spInit (He.ga K x) fl.length (ES.fsOf fl))
def sRaise (C : Str) (fl : List Str) (m : EM (List D)) : SM := fun xq de s n => m xq s n fun ds n1 => ds.length = fl.length ∧ xq (C, ES.fsOf fl ds) n1
section
variable {K : PySem.W.Frag} {aS : Addr} {H : Hp} {A : AS}
theorem repF_go : ∀ {fl : List Str} {ds : List D} {vs : List V} {a : List (Str × D)} {b : List (Str × V)}, RepF K aS H A a b → RepL K aS H A ds vs → RepF K aS H A (ES.fsGo a fl ds) (ES.fsGo b fl vs)
  | [], _, _, _, _, r, _ => r
  | f :: fl, [], vs, a, b, r, q => by
    rw [RepL] at q
    subst q
    exact r
  | f :: fl, d :: ds, vs, a, b, r, q => by
    rw [RepL] at q
    obtain ⟨v, vr, e, r1, q1⟩ := q
    subst e
    refine repF_go (fl := fl) (a := (f, d) :: a) (b := (f, v) :: b) ?_ q1
    rw [RepF]
    exact ⟨v, b, rfl, r1, r⟩
theorem repF_fs {fl : List Str} {ds : List D} {vs : List V} (q : RepL K aS H A ds vs) : RepF K aS H A (ES.fsOf fl ds) (ES.fsOf fl vs) := repF_go (by rw [RepF]) q
end
section
variable {X : Cx} {E : XK} {O O' OL : List Nat} {e : Expr} {es : List Expr} {ml : EM (List D)} {pos p rpos : Pos} {x : Str} {fl : List Str} {k k' : Nat}
theorem vs_raise (hc : X.calm = true) (tk : TK X E) (G : GEx X.prog X.w X.K X.mg X.base x k fl) (hr : Room k' X.A) (hk : k + 1 ≤ k') (hg : Gl X x) (ha : VA Rep X E O (e :: es) ml) (hfl0 : fl.length ≤ 1000 := by decide) (hdb : (x == ("__debug__" : Str)) = false := by decide)
    (he : starEach (e :: es) X.env = (false, eval e X.env) :: starEach es X.env := by rfl) (hpl : (backTo pos (starEach es X.env)).any (·.1) = false := by rfl) :
    VS X E O O' OL (.Raise (some (.Call (.Name x p) (e :: es) [] pos)) none rpos) (sRaise x fl ml) := by
  obtain ⟨fI, fd, ps, hm, T, iC, tI, hb, F1⟩ := G
  obtain ⟨mn, t, pa, ft⟩ := ha
  refine ⟨_, ps_raise hc tk (pmk_oex T iC tI F1 (DL.Room.le hr hk) hb .nil (passes_call tk_f fun _ _ _ _ h => h) hg hm pa hdb he hpl), fun aS A0 H0 σ H s n xq de De S L kk h => ?_⟩
  refine ft aS A0 H0 σ H s n xq _ S L (mn _ _ _ _ _ (fun ds n1 q vs H1 k1 st1 r1 => ?_) h)
  obtain ⟨hl, q⟩ := q
  have rL := RL.repL r1
  have hvl : vs.length = fl.length := by rw [rL.length]; exact hl
  have hfl : vs.length ≤ 1000 := by omega
  refine ⟨hfl, fun a na => ?_⟩
  rw [List.append_nil]
  refine ⟨a, vs, rfl, hvl, upd_same, fun H' dx kp kT nd nda e1 e2 => ⟨rfl, dx, _, e1, e2, ?_, ?_⟩⟩
  · rw [upd_ne nda] at nd
    exact nd
  · rw [upd_ne nda] at nd
    have up : ∀ b u, H1 b = some u → upd (del H' a) dx (.xd (ES.fsOf fl vs)) b = some u := fun b u z => by
      rw [upd_ne (ne_of_none z nd), del_ne (ne_of_none z na)]
      exact kp b u (by rw [upd_ne (ne_of_none z na)]; exact z) (ne_of_none z na)
    have noT : ∀ b ps, upd (del H' a) dx (.xd (ES.fsOf fl vs)) b = some (.tbl ps) → H1 b = some (.tbl ps) := fun b ps z => by
      by_cases zb : b = dx
      · rw [zb, upd_same] at z; cases z
      · rw [upd_ne zb] at z
        by_cases za : b = a
        · rw [za, del_same] at z; cases z
        · rw [del_ne za] at z
          have y := kT b ps z
          rw [upd_ne za] at y
          exact y
    have S1 := S.step k1 st1
    have kpS : KpS aS H1 (upd (del H' a) dx (.xd (ES.fsOf fl vs))) := fun b u z _ => .of (up b u z)
    refine L x (ES.fsOf fl ds) n1 (some dx) _ (S1.fr.trans kpS) (st1.kp ⟨up, noT⟩) ⟨_, ?_, upd_same, ?_⟩ q
    · cases z : H0 dx with
      | none => rfl
      | some u =>
        by_cases hs : dx = aS
        · obtain ⟨xs, z2⟩ := st1.lst
          rw [hs, z2] at nd
          cases nd
        · exact (KpS.gone S1.fr nd z (hs)).elim
    · refine RepF.mono (sub_le fun b z => av_nil b z) _ _ (repF_fs (rL.kp kpS st1 AV.st))
end
end DL
namespace TR
open PySem PySem.Spec PyProof.Rows L2
/-! ### several except clauses, with names and without -/
abbrev Hd := Value × Option Nat × (Addr → Value → Option Addr → TS)
/-- behind a clause its name is gone -/
def dropN (i : Nat) (D : Ends) : Ends := { nx := fun σ H => D.nx (σ.set i none) H, rt := D.rt, bk := fun σ H => D.bk (σ.set i none) H, ct := fun σ H => D.ct (σ.set i none) H }
def runHd (ts : Addr → Value → Option Addr → TS) (D : Ends) (a : Addr) (cls : Value) (d : Option Addr) (σ : L2.St) (H : Hp) : Option Nat → Prop
  | none => ts a cls d D σ H
  | some i => ts a cls d (dropN i D) (σ.set i (some (.ref a))) H
def wMix (K : PySem.W.Frag) (Wout : WX) (D : Ends) : List Hd → WX
  | [] => Wout
  | (c, o, ts) :: r => fun cls d σ H => ∃ b, PySem.W.exmOne K cls c = some b ∧ (b = true → ∀ a, H a = none → runHd ts D a cls d σ H o) ∧ (b = false → wMix K Wout D r cls d σ H)
def NmOk (X : Cx) : Option Str → Option Nat → Prop
  | none, none => True
  | some n, some i => X.N[i]? = some n ∧ X.env.kindOf n = some .local
  | _, _ => False
inductive MixOk (X : Cx) : List ExceptHandler → List Hd → Prop
  | nil : MixOk X [] []
  | cons {x : Str} {c : Value} {ts : Addr → Value → Option Addr → TS} {b₀ : Stmt} {suite : List Stmt} {np pos' : Pos} {hds : List ExceptHandler} {l : List Hd} {n : Option Str} {o : Option Nat} (hc : Names X x c) (hn : NmOk X n o)
      (hsu : ∀ (a : Addr) (oe : Obj) (cls : Value) (d : Option Addr) (pn : List (Addr × Obj)), Zc cls d oe → (∃ vs, oe.data = .fields vs) → PSs (X.suite a ((a, oe) :: pn)) (b₀ :: suite) (ts a cls d)) (r : MixOk X hds l) :
      MixOk X (.ExceptHandler (some (.Name x np)) n (b₀ :: suite) pos' :: hds) ((c, o, ts) :: l)
section
variable {X : Cx} {body : List Stmt} {h₀ : ExceptHandler} {hds : List ExceptHandler} {l : List Hd} {pos : Pos} {tb : WX → TS} {Wout : WX}
theorem ps_try_mix (hs : X.stack = X.env :: X.outer) (hf : X.env.frame = some X.env.locals) (hN : X.N.Nodup) (tk : Takes X Wout)
    (hb : ∀ (W : WX) (pn : List (Addr × Obj)) (xe : Value → Shared → Prop), Takes (X.tr pn xe) W → PassesOwn (model X.prog X.w) X.A X.env xe → PSs (X.tr pn xe) body (tb W))
    (hh : MixOk X (h₀ :: hds) l) : PS X (.Try body (h₀ :: hds) [] [] pos) (fun D σ H => tb (wMix X.K Wout D l) D σ H) := by
  refine ⟨fun pins s σ H D I h => ?_⟩
  have ok := I.ok
  have frs0 : X.A.frames = some (X.env :: X.outer) := by rw [ok.frames, hs]
  -- what a body's end becomes
  have back : ∀ (xe : Value → Shared → Prop) (f : Flow) (s1 : Shared), SP (X.tr (X.pn ++ pins) xe) [] D f s1 → SP X pins D f s1 := fun xe f s1 q => by
    cases f with
    | ret u => obtain ⟨v, σ', H', J', r, z⟩ := q; exact ⟨v, σ', H', J'.ofTry ok, r, z⟩
    | next => obtain ⟨σ', H', J', z⟩ := q; exact ⟨σ', H', J'.ofTry ok, z⟩
    | brk => obtain ⟨σ', H', J', z⟩ := q; exact ⟨σ', H', J'.ofTry ok, z⟩
    | cont => obtain ⟨σ', H', J', z⟩ := q; exact ⟨σ', H', J'.ofTry ok, z⟩
  refine wpAny_Try_except ?_
  refine wpAny_mono ((hb (wMix X.K Wout D l) (X.pn ++ pins) (fun e s₁ => wpAny (model X.prog X.w) X.A (noteFrame e X.env) (fun _ s₂ => wpAny (model X.prog X.w) X.A (setFlight e none) (fun _ s₃ =>
    wpAny (model X.prog X.w) X.A (handleBy e X.env (h₀ :: hds)) (SP X pins D) X.xe s₃) X.xe s₂) X.xe s₁) (fun u s' xx => ?_) PassesOwn.looking).run [] s σ H D (I.toTry _) h) (fun f s1 hsp => ?_) (fun e s1 he => he)
  · obtain ⟨a, B, sI, pins', σ', H', cls, d, rfl, J', nb, up, sky, na, os, ag, w⟩ := xx
    have J : Inv X pins σ' H' sI := J'.ofTry ok
    rw [hs] at sky
    refine Sky.land Zc.steady frs0 hf sky fun h3 fl3 up3 => ?_
    have J3 : Inv X pins σ' H' { s' with heap := h3 } := J.landed nb fl3.1 (up.trans up3) os ag
    obtain ⟨oe3, vs3, he3, hz3, hd3⟩ := fl3.there
    have nfr : a ∉ frs (X.env :: X.outer) := fun hm => by
      obtain ⟨_, o', e', hnf⟩ := fl3.2.2.1.mem hm
      rw [he3] at e'
      cases e'
      exact hnf _ hd3
    have nL : a ≠ X.env.locals := fun z => nfr (List.mem_filterMap.mpr ⟨X.env, List.mem_cons_self, by rw [hf, z]⟩)
    have nF : a ∉ X.fs := fun hm => by
      obtain ⟨e, he, q⟩ := List.mem_filterMap.mp hm
      exact nfr (List.mem_filterMap.mpr ⟨e, List.mem_cons_of_mem _ he, q⟩)
    have S3 := J3.suite he3 hd3 na nL nF
    have LT : PySem.W.Looks (model X.prog X.w) h3 (typeOf (.ref a)) cls := fun A Q E s k q => wpAny_typeOf_ref (k _ _ he3) (by rw [hz3.1]; exact q)
    have go : ∀ {hds' : List ExceptHandler} {l' : List Hd}, MixOk X hds' l' → wMix X.K Wout D l' cls d σ' H' →
        wpAny (model X.prog X.w) X.A (handleBy (.ref a) X.env hds') (SP X pins D) X.xe { s' with heap := h3 } := by
      intro hds' l' hk
      induction hk with
      | nil =>
        intro w
        refine wpAny_handleBy_nil ?_
        obtain ⟨k1, k2, k3, oe, vs, T, oT, ts', he, hz, hd, h1, hr⟩ := id fl3
        unfold PySem.passOn
        refine wpAny_bind (wpAny_field he hd h1 ?_)
        rw [if_neg (show ¬ ((Value.ref T == Value.none) = true) from by simp)]
        have out : wpAny (model X.prog X.w) X.A (setFlight (.ref a) X.env.frame) (fun _ s4 => wpAny (model X.prog X.w) X.A (throw (.ref a) : Sem Flow) (SP X pins D) X.xe s4) X.xe { s' with heap := h3 } := by
          rw [hf]
          refine HandSPX.setFlight_upZ fl3 fun h4 hh4 up4 => wpAny_throw (tk _ _ ?_)
          exact ⟨a, B, sI, pins, σ', H', cls, d, rfl, J, nb, (up.trans up3).trans up4, .inr (.inr (by rw [hs]; exact hh4)), na, os, ag, w⟩
        first
          | exact wpAny_bind (wpAny_pure (wpAny_bind out))
          | exact wpAny_bind out
      | @cons x c ts b₀ suite np pos' hds2 l2 n o hc hn hsu r ih =>
        intro w
        obtain ⟨b, hb1, yes, no⟩ := w
        refine wpAny_handleBy_cons (codeAny_handlers_test ?_) (by intro q; cases q)
        have LM := PySem.W.exm_one (M := model X.prog X.w) J3.kIn LT hb1
        have test : ∀ {Q : Value → Shared → Prop} {E : Value → Shared → Prop}, Q c { s' with heap := h3 } → wpAny (model X.prog X.w) (X.A.mark (some (.ref a))) (eval (.Name x np) X.env) Q E { s' with heap := h3 } := fun {Q E} q => by
          obtain ⟨hg, hdbg, hm | ⟨hm, hv, hnn⟩⟩ := hc
          · exact ld_glob (X := X.suite a ((a, oe3) :: (X.pn ++ pins))) S3 hg hm q hdbg
          · exact ld_blt (X := X.suite a ((a, oe3) :: (X.pn ++ pins))) S3 hg hm hv q hnn hdbg
        refine test (LM.here ?_)
        cases b with
        | false => exact ih (no rfl)
        | true =>
          have q := yes rfl a na
          match n, o, hn, q with
          | none, none, _, q =>
            refine codeAny_handlers_suite (HandSPX.lands_againZ fl3 fun h4 fl4 up4 => ?_)
            have J4 : Inv X pins σ' H' { s' with heap := h4 } := J.landed nb fl4.1 ((up.trans up3).trans up4) os ag
            obtain ⟨oe4, vs4, he4, hz4, hd4⟩ := fl4.there
            refine wpAny_mono ((hsu a oe4 cls d (X.pn ++ pins) hz4 ⟨_, hd4⟩).run [] _ _ H' _ (J4.suite he4 hd4 na nL nF) q) (fun f s6 hsp => ?_) (fun _ _ z => False.elim z)
            cases f with
            | ret u => obtain ⟨v6, σ6, H6, S6, r6, q6⟩ := hsp; exact ⟨_, _, _, S6.unsuite ok, r6, q6⟩
            | next => obtain ⟨σ6, H6, S6, q6⟩ := hsp; exact ⟨_, _, S6.unsuite ok, q6⟩
            | brk => obtain ⟨σ6, H6, S6, q6⟩ := hsp; exact ⟨_, _, S6.unsuite ok, q6⟩
            | cont => obtain ⟨σ6, H6, S6, q6⟩ := hsp; exact ⟨_, _, S6.unsuite ok, q6⟩
          | some n, some i, ⟨hi, hln⟩, q =>
            refine codeAny_handlers_suite_as (HandSPX.lands_againZ fl3 fun h4 fl4 up4 => ?_)
            have J4 : Inv X pins σ' H' { s' with heap := h4 } := J.landed nb fl4.1 ((up.trans up3).trans up4) os ag
            obtain ⟨oe4, vs4, he4, hz4, hd4⟩ := fl4.there
            refine store_ok (X := X.suite a ((a, oe4) :: (X.pn ++ pins))) (v := .ref a) (J4.suite he4 hd4 na nL nF) hN hi (.inl hln) rfl (fun s5 S5 => ?_) (.inr hln)
            refine wpAny_mono ((hsu a oe4 cls d (X.pn ++ pins) hz4 ⟨_, hd4⟩).run [] s5 _ H' _ S5 q) (fun f s6 hsp => ?_) (fun _ _ z => False.elim z)
            cases f with
            | ret u => obtain ⟨v6, σ6, H6, S6, r6, q6⟩ := hsp; exact gone_ok (S6.unsuite ok) hN hi hln fun s7 J7 => ⟨_, _, _, J7, r6, q6⟩
            | next => obtain ⟨σ6, H6, S6, q6⟩ := hsp; exact gone_ok (S6.unsuite ok) hN hi hln fun s7 J7 => ⟨_, _, J7, q6⟩
            | brk => obtain ⟨σ6, H6, S6, q6⟩ := hsp; exact gone_ok (S6.unsuite ok) hN hi hln fun s7 J7 => ⟨_, _, J7, q6⟩
            | cont => obtain ⟨σ6, H6, S6, q6⟩ := hsp; exact gone_ok (S6.unsuite ok) hN hi hln fun s7 J7 => ⟨_, _, J7, q6⟩
    exact go hh w
  · cases f with
    | ret u => exact back _ _ _ hsp
    | next => exact wpAny_execs_nil (back _ _ _ hsp)
    | brk => exact back _ _ _ hsp
    | cont => exact back _ _ _ hsp
end
end TR
namespace TR
open PySem PySem.Spec PyProof.Rows L2
/-! ### found = .. in an except clause -/
/-- what a clause makes of the error: a word with a field, with the list of a field, a word alone, a word with None, a field alone -/
inductive HV where
  | fld (w f : Str) | lst (w f : Str) | str (w : Str) | nonp (w : Str) | bare (f : Str)
abbrev HE := Addr × Option Nat × HV
abbrev rLst (K : PySem.W.Frag) : List V → Hp → VK → Prop := DL.rListT K
def tsOf (K : PySem.W.Frag) (j : Nat) : HE → Addr → Value → Option Addr → TS
  | (C, o, .fld w f) => fun a cls d => tAsg (tTup (tCons (tC (.str w)) (tCons (tXf a cls d C f (tVar (o.getD 0))) tNil))) (gName j)
  | (C, o, .lst w f) => fun a cls d => tAsg (tTup (tCons (tC (.str w)) (tCons (tCB (rLst K) (tCons (tXf a cls d C f (tVar (o.getD 0))) tNil)) tNil))) (gName j)
  | (_, _, .str w) => fun _ _ _ => tAsg (tC (.str w)) (gName j)
  | (_, _, .nonp w) => fun _ _ _ => tAsg (tTup (tCons (tC (.str w)) (tCons (tC .non) tNil))) (gName j)
  | (C, o, .bare f) => fun a cls d => tAsg (tXf a cls d C f (tVar (o.getD 0))) (gName j)
def hdOf (K : PySem.W.Frag) (j : Nat) (e : HE) : Hd := (.ref e.1, e.2.1, tsOf K j e)
/-- the same as a wish of the value -/
def hvW (K : PySem.W.Frag) (C : Addr) (cls : Value) (d : Option Addr) (H : Hp) (Q : VK) : HV → Prop
  | .fld w f => cls = .ref C ∧ ∃ (dd : Addr) (fs : List (Str × V)) (v : V), d = some dd ∧ H dd = some (.xd fs) ∧ fs.lookup f = some v ∧ ∀ p, H p = none → Q (.ref p) (upd H p (.tup [.str w, v]))
  | .lst w f => cls = .ref C ∧ ∃ (dd : Addr) (fs : List (Str × V)) (p : Addr) (xs : List V), d = some dd ∧ H dd = some (.xd fs) ∧ fs.lookup f = some (.ref p) ∧ (SqL K H p xs ∨ SqT K H p xs) ∧
      ∀ l, H l = none → ∀ t, upd H l (.lst xs) t = none → Q (.ref t) (upd (upd H l (.lst xs)) t (.tup [.str w, .ref l]))
  | .str w => Q (.str w) H
  | .nonp w => ∀ p, H p = none → Q (.ref p) (upd H p (.tup [.str w, .non]))
  | .bare f => cls = .ref C ∧ ∃ (dd : Addr) (fs : List (Str × V)) (v : V), d = some dd ∧ H dd = some (.xd fs) ∧ fs.lookup f = some v ∧ Q v H
def hw (K : PySem.W.Frag) (Q : VK) : List HE → Value → Option Addr → Hp → Prop
  | [], _, _, _ => False
  | e :: r, cls, d, H => ∃ b, PySem.W.exmOne K cls (.ref e.1) = some b ∧ (b = true → hvW K e.1 cls d H Q e.2.2) ∧ (b = false → hw K Q r cls d H)
/-- a clause with a field has a name, and not found's -/
def heOk (n j : Nat) : HE → Prop
  | (_, some i, _) => i < n ∧ i ≠ j
  | (_, none, .str _) => True
  | (_, none, .nonp _) => True
  | _ => False
theorem hw_mix {K : PySem.W.Frag} {Q : VK} {D : Ends} {n j : Nat} (hj : j < n) (hD : ∀ (σ : L2.St) (H : Hp) (v : V), σ[j]? = some (some v) → Q v H → D.nx σ H) :
    ∀ (l : List HE) (cls : Value) (d : Option Addr) (σ : L2.St) (H : Hp), (∀ e ∈ l, heOk n j e) → σ.length = n → hw K Q l cls d H → wMix K (fun _ _ _ _ => False) D (l.map (hdOf K j)) cls d σ H
  | [], _, _, _, _, _, _, h => h.elim
  | (C, o, v) :: l, cls, d, σ, H, ok, hn, h => by
    obtain ⟨b, hb, yes, no⟩ := h
    have ok1 := ok _ List.mem_cons_self
    refine ⟨b, hb, fun e a na => ?_, fun e => hw_mix hj hD l cls d σ H (fun e he => ok e (List.mem_cons_of_mem _ he)) hn (no e)⟩
    have y := yes e
    have two : ([V.non, V.non] : List V).length ≤ sizeLine := by rw [sizeLine_eq]; decide
    match o, v, ok1, y with
    | some i, .fld w f, ⟨hi, hij⟩, ⟨ec, dd, fs, u, ed, ha, hl, q⟩ =>
      refine ⟨.ref a, List.getElem?_set_self (by omega), rfl, ec, dd, fs, u, ed, ha, hl, two, fun p hp => hD _ _ (.ref p) ?_ (q p hp)⟩
      rw [List.getElem?_set_ne hij, List.getElem?_set_self (by rw [List.length_set]; omega)]
    | some i, .bare f, ⟨hi, hij⟩, ⟨ec, dd, fs, u, ed, ha, hl, q⟩ =>
      refine ⟨.ref a, List.getElem?_set_self (by omega), rfl, ec, dd, fs, u, ed, ha, hl, hD _ _ u ?_ q⟩
      rw [List.getElem?_set_ne hij, List.getElem?_set_self (by rw [List.length_set]; omega)]
    | some i, .lst w f, ⟨hi, hij⟩, ⟨ec, dd, fs, u, xs, ed, ha, hl, hs, q⟩ =>
      refine ⟨.ref a, List.getElem?_set_self (by omega), rfl, ec, dd, fs, .ref u, ed, ha, hl, u, xs, rfl, hs, fun k hk => ⟨two, fun p hp => hD _ _ (.ref p) ?_ (q k hk p hp)⟩⟩
      rw [List.getElem?_set_ne hij, List.getElem?_set_self (by rw [List.length_set]; omega)]
    | some i, .str w, ⟨hi, hij⟩, y =>
      refine hD _ _ (.str w) ?_ y
      rw [List.getElem?_set_ne hij, List.getElem?_set_self (by rw [List.length_set]; omega)]
    | some i, .nonp w, ⟨hi, hij⟩, y =>
      refine ⟨two, fun p hp => hD _ _ (.ref p) ?_ (y p hp)⟩
      rw [List.getElem?_set_ne hij, List.getElem?_set_self (by rw [List.length_set]; omega)]
    | none, .str w, _, y => exact hD _ _ (.str w) (List.getElem?_set_self (by omega)) y
    | none, .nonp w, _, y => exact ⟨two, fun p hp => hD _ _ (.ref p) (List.getElem?_set_self (by omega)) (y p hp)⟩
theorem takes_len {X : Cx} {W : WX} (t : Takes X W) : Takes X (fun c d σ H => σ.length = X.N.length → W c d σ H) := fun u s' ⟨a, B, sI, pins, σ, H, cls, d, e, I, nb, up, sky, na, os, ag, w⟩ =>
  t u s' ⟨a, B, sI, pins, σ, H, cls, d, e, I, nb, up, sky, na, os, ag, w I.len⟩
/-! ### the def that tries what it got -/
/-- what it makes of the call: nothing (found stays None), a pair with a word -/
inductive OKF where
  | drop | told (w : Str)
/-- behind the call, found read again: in the very slots -/
def okW (σ : L2.St) (Q : VK) (v : V) (H : Hp) : OKF → Prop
  | .drop => tVar 1 σ H Q
  | .told w => 2 ≤ sizeLine ∧ ∀ p, H p = none → tVar 1 (σ.set 1 (some (.ref p))) (upd H p (.tup [.str w, v])) Q
def TTried (K : PySem.W.Frag) (Ng : List Str) (ok : OKF) (l : List HE) : (XK → Hp → VK → Prop) → Hp → VK → Prop := fun tl H Q => ∀ f : Addr, ∃ Ech : XK, (∀ cls d H', Ech cls d H' → hw K Q l cls d H') ∧ tl Ech H fun v H' => okW ((L2.start Ng [V.ref f]).set 1 (some .non)) Q v H' ok
section
variable {X : Cx}
abbrev ZX (X : Cx) (Ng : List Str) (x : Str) (sg : Scope) (g : Addr) (cdg : Value) (s : Shared) (H : Hp) : Cx := (cxOf C8.CX0 X.prog X.w X.K X.mg X.base Ng x sg g cdg X.A X.stack s H C8.E0).nox
abbrev bodyT (ok : OKF) (a fd : Str) (k1 k2 : Nat) (p1 p2 p3 p4 p5 p6 : Pos) : Stmt := match ok with
  | .drop => .Expr (.Call (.Name a p1) [] [] p2) p3
  | .told w => .Assign [.Name fd p4] (.Tuple [.Constant (.str w) k1 p5, .Call (.Name a p1) [] [] p2] k2 p6) p3
theorem tried_gives {Ng : List Str} {x a fd q : Str} {sg : Scope} {g : Addr} {cdg : Value} {ok : OKF} {l : List HE} {h₀ : ExceptHandler} {hds : List ExceptHandler} {j0 k1 k2 : Nat} {p1 p2 p3 p4 p5 p6 q1 q2 q3 q4 q5 q6 q7 : Pos}
    (nd : Ng.Nodup) (h1 : Ng[1]? = some fd) (hlf : sg.names.lookup fd = some .local) (hlen : 2 ≤ Ng.length) (hl : ∀ e ∈ l, heOk Ng.length 1 e) (hd : (fd == ("__debug__" : Str)) = false := by decide) (hcd : (fd == ("__classdict__" : Str)) = false := by decide)
    (hsw1 : ∀ s H, swapsWith (.Constant .none j0 q2) (some (.Name fd q1)) q3.line (ZX X Ng x sg g cdg s H).env = pure false := by intros; rfl)
    (hsw2 : ∀ s H, swapsWith (.Call (.Name a p1) [] [] p2) none p3.line (ZX X Ng x sg g cdg s H).env = pure false := by intros; rfl)
    (hsw3 : ∀ w s H, swapsWith (.Tuple [.Constant (.str w) k1 p5, .Call (.Name a p1) [] [] p2] k2 p6) (some (.Name fd p4)) p3.line (ZX X Ng x sg g cdg s H).env = pure false := by intros; rfl)
    (hh : ∀ s H, MixOk (ZX X Ng x sg g cdg s H) (h₀ :: hds) (l.map (hdOf X.K 1))) :
    LamX.GivesTo X Ng x sg g cdg [.Assign [.Name fd q1] (.Constant .none j0 q2) q3, .Try [bodyT ok a fd k1 k2 p1 p2 p3 p4 p5 p6] (h₀ :: hds) [] [] q4, .Return (some (.Name fd q5)) q6] a q (TTried X.K Ng ok l) := by
  intro f c' s H Q tl act hc h
  obtain ⟨Ech, hE, htl⟩ := h f
  have hj : 1 < Ng.length := hlen
  let D0 : Ends := { nx := fun _ H' => Q .non H', rt := Q }
  let D1 : Ends := { D0 with nx := fun σ H => tRet (tVar 1) D0 σ H }
  have z0 : ((L2.start Ng [V.ref f]).set 1 (some V.non))[0]? = some (some (.ref f)) := by
    rw [List.getElem?_set_ne (by decide)]
    rfl
  have mixed : ∀ cls d σ' H', Ech cls d H' → σ'.length = Ng.length → wMix X.K (fun _ _ _ _ => False) D1 (l.map (hdOf X.K 1)) cls d σ' H' := fun cls d σ' H' z hz =>
    hw_mix (D := D1) hj (fun σ H v e q => (⟨v, e, q⟩ : tVar 1 σ H Q)) l cls d σ' H' hl hz (hE cls d H' z)
  cases ok with
  | drop =>
    refine ⟨_, pss_cons (ps_set (i := 1) nd h1 (.inl hlf) pe_non (hsw1 s H) (.inr hlf)) (pss_cons (ps_try_mix (X := ZX X Ng x sg g cdg s H) (Wout := fun _ _ _ _ => False)
      (tb := fun W D σ H => ∃ Ec : XK, (∀ cls d σ' H', Ec cls d H' → σ'.length = Ng.length → W cls d σ' H') ∧ σ[0]? = some (some (.ref f)) ∧ H c' = some (LamX.CodeO c' q) ∧ tl Ec H fun _ H1 => D.nx σ H1)
      rfl rfl nd LamX.takes0 (fun W pn xe tk _ => ⟨fun pins s' σ H' D I h' => ?_⟩) (hh s H)) (pss_one (ps_ret (pe_var h1 (.inl hlf) hd hcd)))), ?_⟩
    · obtain ⟨Ec, hW, e0, ec, ht⟩ := h'
      have hp := act (fun c d σ H => σ.length = Ng.length → W c d σ H) pn xe Ec p1 p2 (takes_len (X := (ZX X Ng x sg g cdg s H).tr pn xe) tk) hW
      exact (pss_one (ps_expr hp (hsw2 s H))).run pins s' σ H' D I ⟨e0, ec, ht⟩
    · exact ⟨Ech, mixed, z0, hc, htl⟩
  | told w =>
    refine ⟨_, pss_cons (ps_set (i := 1) nd h1 (.inl hlf) pe_non (hsw1 s H) (.inr hlf)) (pss_cons (ps_try_mix (X := ZX X Ng x sg g cdg s H) (Wout := fun _ _ _ _ => False)
      (tb := fun W D σ H => ∃ Ec : XK, (∀ cls d σ' H', Ec cls d H' → σ'.length = Ng.length → W cls d σ' H') ∧ σ[0]? = some (some (.ref f)) ∧ H c' = some (LamX.CodeO c' q) ∧ tl Ec H fun v H1 => 2 ≤ sizeLine ∧ ∀ p, H1 p = none → D.nx (σ.set 1 (some (.ref p))) (upd H1 p (.tup [.str w, v])))
      rfl rfl nd LamX.takes0 (fun W pn xe tk _ => ⟨fun pins s' σ H' D I h' => ?_⟩) (hh s H)) (pss_one (ps_ret (pe_var h1 (.inl hlf) hd hcd)))), ?_⟩
    · obtain ⟨Ec, hW, e0, ec, ht⟩ := h'
      have hp := act (fun c d σ H => σ.length = Ng.length → W c d σ H) pn xe Ec p1 p2 (takes_len (X := (ZX X Ng x sg g cdg s H).tr pn xe) tk) hW
      exact (pss_one (ps_set (i := 1) nd h1 (.inl hlf) (pe_tup (pa_cons pe_str (pa_cons hp pa_nil))) (hsw3 w s H) (.inr hlf))).run pins s' σ H' D I ⟨e0, ec, ht⟩
    · exact ⟨Ech, mixed, z0, hc, htl⟩
end
end TR
namespace TR
open PySem PySem.Spec PyProof.Rows L2 DL LamX
variable [TabC]
/-! ### a lambda is made: what the heap becomes -/
/-- everything stays, tables may grow -/
def KpA (H H1 : Hp) : Prop := ∀ b u, H b = some u → Kp1 u (H1 b)
section
variable {X : Cx} {pins : List (Addr × Obj)} {σ : L2.St} {H : Hp} {s : Shared}
/-- one more code object, told in the table at P -/
theorem tba_grow {P c' : Addr} {q : Str} {ps : Array Value} {pos : Pos} (t : TbA H) (hP : H P = some (.tbl ps)) (hm : (P, q) ∈ TabC.T) (hu : ∀ p ∈ TabC.T, p.1 = P → p.2 = q) (nC : H c' = none) :
    KpA H (upd (upd H P (.tbl (ps ++ #[rawInt pos.line, rawInt pos.col, .ref c']))) c' (CodeO c' q)) ∧ TbA (upd (upd H P (.tbl (ps ++ #[rawInt pos.line, rawInt pos.col, .ref c']))) c' (CodeO c' q)) := by
  have nPc : P ≠ c' := ne_of_none hP nC
  have away : ∀ b, b ≠ P → b ≠ c' → upd (upd H P (.tbl (ps ++ #[rawInt pos.line, rawInt pos.col, .ref c']))) c' (CodeO c' q) b = H b := fun b h1 h2 => by rw [upd_ne h2, upd_ne h1]
  have atP : upd (upd H P (.tbl (ps ++ #[rawInt pos.line, rawInt pos.col, .ref c']))) c' (CodeO c' q) P = some (.tbl (ps ++ #[rawInt pos.line, rawInt pos.col, .ref c'])) := by rw [upd_ne nPc, upd_same]
  have keep : KpA H (upd (upd H P (.tbl (ps ++ #[rawInt pos.line, rawInt pos.col, .ref c']))) c' (CodeO c' q)) := fun b u e => by
    by_cases hb : b = P
    · rw [hb, hP] at e
      cases e
      rw [hb, atP]
      exact ⟨_, rfl⟩
    · rw [away b hb (ne_of_none e nC)]
      exact .of e
  have code : ∀ c0, H c0 = some (CodeO c0 q) → upd (upd H P (.tbl (ps ++ #[rawInt pos.line, rawInt pos.col, .ref c']))) c' (CodeO c' q) c0 = some (CodeO c0 q) := fun c0 e => keep c0 _ e
  obtain ⟨ps0, g1, g2, g3⟩ := t.1 _ hm
  have ep : ps0 = ps := by
    have z := g1.symm.trans hP
    cases z
    rfl
  subst ep
  have eL : (ps0 ++ #[rawInt pos.line, rawInt pos.col, .ref c']).toList = ps0.toList ++ [rawInt pos.line, rawInt pos.col, .ref c'] := by simp
  refine ⟨keep, fun p hp => ?_, fun b qs e => ?_⟩
  · by_cases hb : p.1 = P
    · have hq := hu p hp hb
      refine ⟨_, by rw [hb]; exact atP, by rw [eL]; exact PySem.TriplesOk_snoc _ _ _ _ g2, fun p' cv hcv => ?_⟩
      rw [eL] at hcv
      rw [hq]
      refine (among_app _ g2 hcv).elim (fun z => ?_) fun z => ⟨c', z, upd_same⟩
      exact (g3 p' cv z).imp fun c0 ⟨e1, e2⟩ => ⟨e1, code c0 e2⟩
    · obtain ⟨ps', a1, a2, a3⟩ := t.1 p hp
      refine ⟨ps', by rw [away _ hb (ne_of_none a1 nC)]; exact a1, a2, fun p' cv hcv => ?_⟩
      exact (a3 p' cv hcv).imp fun c0 ⟨e1, e2⟩ => ⟨e1, keep c0 _ e2⟩
  · by_cases hb : b = P
    · trivial
    · by_cases hc : b = c'
      · rw [hc, upd_same] at e
        have e : some (HO.ext _) = some (HO.tbl qs) := e
        cases e
      · rw [away b hb hc] at e
        exact t.2 b qs e
theorem lam_new {c P : Addr} {params : Arguments} {body : Expr} {scope : Scope} {pos : Pos} {E : Value → Shared → Prop} {Q : Value → Shared → Prop} (I : Inv X pins σ H s) (TB : TabB X.base X.mg c P) (hcode : X.env.code = .ref c)
    (hm : (P, X.env.qual ++ "<lambda>") ∈ TabC.T) (hu : ∀ p ∈ TabC.T, p.1 = P → p.2 = X.env.qual ++ "<lambda>") (t : TbA H) (hdef : defaultsOf params X.env = ([], [])) (hfree : ∀ y ∈ scope.names, y.2 = .free → ∃ c, X.env.cells.lookup y.1 = some c)
    (h : ∀ (f c' : Addr) (pm ctv : Value) (H1 : Hp) (s' : Shared), Inv X pins σ H1 s' → KpA H H1 → TbA H1 →
      s'.heap.get? f = some (PySem.W.kla_obj "<lambda>" (X.env.qual ++ "<lambda>") params body scope (cloFrom X.env.cells scope.names []) pm c' ctv) → H1 f = none → f ∉ frs X.stack → H1 c' = some (CodeO c' (X.env.qual ++ "<lambda>")) → Q (.ref f) s') :
    wpAny (model X.prog X.w) X.A (eval (.Lambda params body scope pos) X.env) Q E s := by
  obtain ⟨ps, hP, ht, ha⟩ := t.1 _ hm
  have sP : s.heap.get? P = some { cls := .none, data := .fields ps } := I.hok P _ hP
  have out : ∀ f, s.heap.objs.size ≤ f → f ∉ frs X.stack := fun f hf z => (List.mem_cons.mp (I.stkSub _ z)).elim (fun e => by
    have lt := I.lt
    rw [← e] at lt
    exact Nat.lt_irrefl _ (Nat.lt_of_lt_of_le lt hf)) (I.nofs hf)
  refine PySem.W.kla_eval hdef ?_
  cases hc : codeAmong pos ps.toList with
  | some cv =>
    obtain ⟨c', e, hco⟩ := ha pos cv hc
    subst e
    refine PySem.W.kla_makeFunctionHit (mg := X.mg) (c := c) (P := P) (ps := ps) (closure_ok hfree) I.ok.glob (I.mod.glob.keeps I.bk) hcode (TB.code.keeps I.bk) sP ht hc (TB.bm.keeps I.bk) fun ctv h' tk hx hsz => ?_
    exact h _ c' _ ctv H _ (I.kept fun b o e => Heap.get?_push_of_some _ (hx b o e)) (fun b u e => .of e) t (Heap.get?_push_size _ rfl) (I.hok.fresh hsz) (out _ hsz) hco
  | none =>
    refine PySem.W.kla_makeFunction (mg := X.mg) (c := c) (P := P) (ps := ps) (closure_ok hfree) I.ok.glob (I.mod.glob.keeps I.bk) hcode (TB.code.keeps I.bk) sP ht hc TB.gP (TB.bm.keeps I.bk) fun c' ctv h' tk hx hge hlt hrec htb => ?_
    obtain ⟨c2, oc, vs, tt, e2, hoc, hd, hv⟩ := hrec
    cases e2
    have hsz : s.heap.objs.size ≤ h'.objs.size := Nat.le_trans hge (Nat.le_of_lt hlt)
    have nC : H c' = none := I.hok.fresh hge
    obtain ⟨kp, tb⟩ := tba_grow (pos := pos) t hP hm hu nC
    have J := inv_table (t' := tk) (more := #[rawInt pos.line, rawInt pos.col, .ref c']) (h' := h'.push (PySem.W.kla_obj "<lambda>" (X.env.qual ++ "<lambda>") params body scope (cloFrom X.env.cells scope.names []) ((X.mg "__name__").getD .none) c' ctv)) I hP
      (fun b o hb e => Heap.get?_push_of_some _ (hx b o hb e)) (Heap.get?_push_of_some _ htb) hge ⟨oc, vs, tt, Heap.get?_push_of_some _ hoc, hd, hv⟩
    refine h _ c' _ ctv _ _ J kp tb (Heap.get?_push_size _ rfl) ?_ (out _ hsz) upd_same
    have lP := Heap.lt_size sP
    rw [upd_ne (Nat.ne_of_gt hlt), upd_ne (Nat.ne_of_gt (Nat.lt_of_lt_of_le lP hsz))]
    exact I.hok.fresh hsz
end
def tLamA (TT : (XK → Hp → VK → Prop) → Hp → VK → Prop) (t : XK → TE) : TE := fun σ H Q => TbA H ∧ ∀ H1, KpA H H1 → TbA H1 → TT (fun E H' Q' => t E σ H' Q') H1 Q
section
variable {X : Cx}
theorem pe_tried {TT : (XK → Hp → VK → Prop) → Hp → VK → Prop} {x a : Str} {g c P : Addr} {k : Nat} {pg : Arguments} {bg : List Stmt} {sg : Scope} {dV kV doc pm cdv ct oc : Value} {an od : Option Addr} {osl : Array (Option Value)} {Ng : List Str}
    {params : Arguments} {body : Expr} {scope : Scope} {t : XK → TE} {p lpos pos : Pos} (hg : Gl X x) (hm : X.mg x = some (.ref g)) (hk : PySem.W.keepIn X.K (.ref g) = true)
    (lk : X.K.lookup g = some ⟨oc, od, .func (PySem.W.fnOf x x pg bg sg dV kV doc pm an cdv ct), osl⟩) (hcg : PySem.W.codeIn X.K cdv x = true) (hb : L2.Binds X.K (PySem.W.fnOf x x pg bg sg dV kV doc pm an cdv ct) [a] []) (Sg : FnScope Ng [a] sg) (hNg : Ng[0]? = some a) (hva : Vis sg a)
    (hG : GivesTo X Ng x sg g cdv bg a (X.env.qual ++ "<lambda>") TT)
    (TB : TabB X.base X.mg c P) (hcode : X.env.code = .ref c) (hmT : (P, X.env.qual ++ "<lambda>") ∈ TabC.T) (hu : ∀ p ∈ TabC.T, p.1 = P → p.2 = X.env.qual ++ "<lambda>") (hr : Room (k + 2) X.A) (L : LamS X.env.scope scope) (hdef : defaultsOf params X.env = ([], []))
    (hbind : ∀ (q : Str) (cl : List (Str × Addr)) (pm cv ctv : Value), bindArgs (PySem.W.kla_fn "<lambda>" q params body scope cl pm cv ctv) ⟨[], []⟩ = pure [])
    (hbody : ∀ (A : Around) (outer : List Env) (s : Shared) (H : Hp) (E : XK) (f c' : Addr), Room k (A.deeper (lamEnv X scope s.heap.objs.size f c')) → PE (lamCx X A outer s H E scope f c') body (t E))
    (hdb : (x == ("__debug__" : Str)) = false := by decide) (hd : (a == ("__debug__" : Str)) = false := by decide) (hcd : (a == ("__classdict__" : Str)) = false := by decide) :
    PE X (.Call (.Name x p) [.Lambda params body scope lpos] [] pos) (tLamA TT t) := by
  refine ⟨fun pins s σ H Q I ⟨hT, h⟩ => ?_⟩
  refine wpAny_Call_Name_kw (ld_glob I hg hm ?_ hdb)
  refine PySem.W.callWith_K (h₀ := X.base) I.ok.mod.kin hk ?_ (by rfl) (by rfl)
  show wpAny _ _ (spliced ((false, eval (.Lambda params body scope lpos) X.env) :: backTo pos (starEach [] X.env))) _ _ s
  refine Calls.spliced_cons (lam_new I TB hcode hmT hu hT hdef (L.has I.ok) fun f c' pm' ctv H1 s' J kp tb hf hfn hfr hco => ?_)
  refine Calls.spliced_nil ⟨J.kIn, ?_⟩
  have run : codeAny (model X.prog X.w) X.A (.call (.ref g) ⟨[.ref f], []⟩) (CR C8.CX0 X.stack X.prog X.w H1 s' Q C8.E0) s' := by
    refine run_ofS (N := Ng) (ps := [a]) (us := [.ref f]) (vs := [.ref f]) lk hcg Sg hr J.env0 (hb s' [.ref f] J.kIn rfl) (.cons rfl .nil) rfl fun hr' => ?_
    obtain ⟨t', pt, qt⟩ := hG f c' s' H1 Q (fun E H' Q' => t E σ H' Q') (fun W pn xe E p1 p2 tk hW => pe_act (i := 0) J L hf hfn hfr (hbind _ _ _ _ _) tk hW hr' (fun A outer s H hr2 => hbody A outer s H E f c' hr2) hNg hva hd hcd) hco (h H1 kp tb)
    exact ⟨t', pt.nox, qt⟩
  refine wpAny_call (codeAny_mono run fun r s2 hq => ?_)
  match r, hq with
  | .ok (.ret u), hq => exact J.after hq
  | .ok .next, hq => exact False.elim hq
  | .ok .brk, hq => exact False.elim hq
  | .ok .cont, hq => exact False.elim hq
  | .error e, hq => exact False.elim hq
end
end TR
namespace DL
open PySem PySem.Spec PyProof.Rows L2 LamX TR
variable [TabC]
/-! ### x(lambda: e) by data -/
def hvD : HV → List (Str × D) → Option D
  | .fld w f, fs => (fs.lookup f).map fun d => .tup [.str w, d]
  | .lst w f, fs => match fs.lookup f with
    | some (.lst xs) => some (.tup [.str w, .lst xs])
    | some (.tup xs) => some (.tup [.str w, .lst xs])
    | _ => none
  | .str w, _ => some (.str w)
  | .nonp w, _ => some (.tup [.str w, .non])
  | .bare f, fs => fs.lookup f
def okD1 : OKF → D → D
  | .drop, _ => .non
  | .told w, d => .tup [.str w, d]
abbrev HS := List (Str × Option Nat × HV)
def hpick : HS → Str → Option HV
  | [], _ => none
  | (C, _, v) :: r, c => if C = c then some v else hpick r c
def eTried (ok : OKF) (hs : HS) (O : List Nat) (m : EM D) : EM D := fun xq s n Q => ∃ (xq0 : XQ) (Q0 : D → Nat → Prop), (∀ x n', xq0 x n' → ∃ hv d, hpick hs x.1 = some hv ∧ hvD hv x.2 = some d ∧ Q d n') ∧ (∀ d n', Q0 d n' → Q (okD1 ok d) n') ∧ m xq0 (hideL s O) n Q0
theorem mn_tried {ok : OKF} {hs : HS} {O : List Nat} {m : EM D} : Mn (eTried ok hs O m) := fun xq s n Q Q' hq ⟨x0, q0, h1, h2, h3⟩ => ⟨x0, q0, fun x n' z => let ⟨hv, d, e1, e2, q⟩ := h1 x n' z; ⟨hv, d, e1, e2, hq _ _ q⟩, fun d n' z => hq _ _ (h2 d n' z), h3⟩
section
variable {K : PySem.W.Frag} {aS : Addr} {H H0 H1 : Hp} {A0 : A0T} {O : List Nat} {σ : L2.St} {s : Ev} {n : Nat}
theorem hideL_len : ∀ (s : Ev) (O : List Nat), (hideL s O).length = s.length
  | s, [] => rfl
  | s, i :: O => by rw [hideL, List.length_set, hideL_len s O]
theorem hideL_get : ∀ {s : Ev} {O : List Nat} {i : Nat} {d : D}, (hideL s O)[i]? = some (some d) → i ∉ O ∧ s[i]? = some (some d)
  | s, [], i, d, h => ⟨by simp, h⟩
  | s, j :: O, i, d, h => by
    rw [hideL] at h
    by_cases z : j = i
    · subst z
      rcases Nat.lt_or_ge j (hideL s O).length with y | y
      · rw [List.getElem?_set_self y] at h; cases h
      · rw [List.getElem?_eq_none (by rw [List.length_set]; exact y)] at h; cases h
    · rw [List.getElem?_set_ne z] at h
      obtain ⟨h1, h2⟩ := hideL_get h
      exact ⟨by simp [h1, Ne.symm z], h2⟩
/-- what slots own is out of sight -/
theorem SR.seal (S : SR K aS O A0 H0 σ H s n) : SR K aS [] ⟨AV aS A0 O σ, none⟩ H σ H (hideL s O) n where
  len := by rw [hideL_len]; exact S.len
  sh := fun i d e _ => by
    obtain ⟨h1, h2⟩ := hideL_get e
    obtain ⟨v, ev, r⟩ := S.sh i d h2 h1
    refine ⟨v, ev, Rep.mono (sub_le fun b z => ?_) _ _ r⟩
    rcases z with z | z | ⟨j, hj, _⟩
    · exact z
    · exact .inr (.inl z)
    · cases hj
  ow := fun i hi => nomatch hi
  ds := fun i j b hi => nomatch hi
  fr := KpS.refl
  st := S.st
  av := fun a h => S.cn.dom a h
  pn := fun hi => nomatch hi
theorem kps_of (k : KpA H H1) : KpS aS H H1 := fun b u e _ => k b u e
theorem StA.kpa (st : StA K aS H n) (k : KpA H H1) (t : TbA H1) : StA K aS H1 n := by
  obtain ⟨a0, cs, i, g, m, d, e, h1, ⟨o, h2⟩, h3, h4, h5, h6, h7, h8, _⟩ := st
  exact ⟨a0, cs, i, g, m, d, k _ (.lst _) e, h1, ⟨o, k _ (.frz o (.lst (cs.map V.int))) h2⟩, h3, h4, h5, h6, h7, h8, t⟩
end
/-- where a lambda is entered -/
abbrev LC := Around × List Env × Shared × Hp × Addr × Addr
section
variable {X : Cx} {E : XK} {O : List Nat} {x : Str} {Ng : List Str} {sg : Scope} {g : Addr} {ok : OKF} {hs : HS} {params : Arguments} {body : Expr} {scope : Scope} {m : EM D} {k : Nat} {p lpos pos : Pos}
/-- the clauses over addresses -/
def hsA (K : PySem.W.Frag) (hs : HS) : List HE := hs.map fun e => (He.ga K e.1, e.2.1, e.2.2)
theorem hw_of {K : PySem.W.Frag} {aS : Addr} {A : AS} {H1 H' : Hp} {n : Nat} {Q : VK} {C : Str} {fs : List (Str × D)} {d : Option Addr} (hA : A aS) (c : Cn K aS H' A n) (r : match d with | none => fs = [] | some a => ∃ ys, H1 a = none ∧ H' a = some (.xd ys) ∧ RepF K aS H' A fs ys) {hv : HV} {y : D}
    (ey : hvD hv fs = some y) (q : ∀ v H2, KpS aS H' H2 → StA K aS H2 n → Rep K aS H2 A y v → Q v H2) :
    ∀ (hs : HS), (∀ e ∈ hs, PySem.W.exmOne K (.ref (He.ga K C)) (.ref (He.ga K e.1)) = some (decide (e.1 = C))) → hpick hs C = some hv → hw K Q (hsA K hs) (.ref (He.ga K C)) d H'
  | [], _, h => by cases h
  | (C1, o, v1) :: hs, hx, h => by
    refine ⟨_, hx _ List.mem_cons_self, fun e => ?_, fun e => ?_⟩
    · have e1 : C1 = C := of_decide_eq_true e
      rw [hpick, if_pos e1] at h
      have ev : v1 = hv := Option.some.inj h
      rw [← ev] at ey
      clear e ev h
      subst e1
      show hvW K (He.ga K C1) (.ref (He.ga K C1)) d H' Q v1
      cases v1 with
      | fld w f =>
        cases d with
        | none =>
          have r : fs = [] := r
          subst r
          cases ey
        | some a =>
          obtain ⟨ys, h1, h2, h3⟩ := r
          rcases repF_look f h3 with z | ⟨d1, u, z1, z2, z3⟩
          · have ey : (fs.lookup f).map _ = some y := ey
            rw [z.1] at ey; cases ey
          · have ey : (fs.lookup f).map _ = some y := ey
            rw [z1] at ey
            cases ey
            refine ⟨rfl, a, ys, u, rfl, h2, z2, fun p hp => q _ _ (KpS.upd hp) (c.st.upd hp) (rep_tup (.inl upd_same) ?_)⟩
            exact RepL.kp (KpS.upd hp) c.st hA (RepL.cons rep_str (RepL.cons z3 RepL.nil))
      | lst w f =>
        cases d with
        | none =>
          have r : fs = [] := r
          subst r
          cases ey
        | some a =>
          obtain ⟨ys, h1, h2, h3⟩ := r
          rcases repF_look f h3 with z | ⟨d1, u, z1, z2, z3⟩
          · simp only [hvD, z.1] at ey
            cases ey
          · simp only [hvD, z1] at ey
            have fin : ∀ (pp : Addr) (xs : List V) (ds : List D), u = .ref pp → (SqL K H' pp xs ∨ SqT K H' pp xs) → RepL K aS H' A ds xs → y = .tup [.str w, .lst ds] → hvW K (He.ga K C1) (.ref (He.ga K C1)) (some a) H' Q (.lst w f) := fun pp xs ds eu hsq rl ey => by
              subst eu ey
              refine ⟨rfl, a, ys, pp, xs, rfl, h2, z2, hsq, fun l hl t ht => q _ _ ((KpS.upd hl).trans (KpS.upd ht)) ((c.st.upd hl).upd ht) (rep_tup (.inl upd_same) ?_)⟩
              have o1 : Own K aS (upd H' l (.lst xs)) (fun b => A b ∨ b = l) l (.lst ds) := own_new hl rl
              exact RepL.kp (KpS.upd ht) (c.st.upd hl) hA (RepL.cons rep_str (RepL.cons (o1.rep (c.new hl)) RepL.nil))
            cases d1 with
            | lst ds =>
              cases ey
              rw [Rep] at z3
              obtain ⟨pp, xs, eu, _, hq, rl⟩ := z3
              exact fin pp xs ds eu (.inl (SqL.of hq)) rl rfl
            | tup ds =>
              cases ey
              rw [Rep] at z3
              obtain ⟨pp, xs, eu, hq, rl⟩ := z3
              exact fin pp xs ds eu (.inr hq.sq) rl rfl
            | _ => cases ey
      | str w =>
        cases ey
        exact q _ _ KpS.refl c.st rep_str
      | bare f =>
        cases d with
        | none =>
          have r : fs = [] := r
          subst r
          cases ey
        | some a =>
          obtain ⟨ys, h1, h2, h3⟩ := r
          rcases repF_look f h3 with z | ⟨d1, u, z1, z2, z3⟩
          · have ey : fs.lookup f = some y := ey
            rw [z.1] at ey; cases ey
          · have ey : fs.lookup f = some y := ey
            rw [z1] at ey
            cases ey
            exact ⟨rfl, a, ys, u, rfl, h2, z2, q _ _ KpS.refl c.st z3⟩
      | nonp w =>
        cases ey
        intro p hp
        exact q _ _ (KpS.upd hp) (c.st.upd hp) (rep_tup (.inl upd_same) (RepL.cons rep_str (RepL.cons rep_non RepL.nil)))
    · have e : C1 ≠ C := of_decide_eq_false e
      rw [hpick, if_neg e] at h
      exact hw_of hA c r ey q hs (fun e he => hx e (List.mem_cons_of_mem _ he)) h
end
end DL
namespace DL
open PySem PySem.Spec PyProof.Rows L2 LamX TR
variable [TabC]
/-- the def x that tries what it got -/
structure GTr (P : Program) (w : World) (K : PySem.W.Frag) (mg : Str → Option Value) (base : Heap) (x : Str) (ok : OKF) (hs : HS) : Prop where
  ex : ∃ (Ng : List Str) (a : Str) (sg : Scope) (g : Addr) (oc : Value) (od : Option Addr) (pg : Arguments) (bg : List Stmt) (dV kV doc pm : Value) (an : Option Addr) (cdv ct : Value) (osl : Array (Option Value)),
    mg x = some (.ref g) ∧ PySem.W.keepIn K (.ref g) = true ∧ K.lookup g = some ⟨oc, od, .func (PySem.W.fnOf x x pg bg sg dV kV doc pm an cdv ct), osl⟩ ∧ PySem.W.codeIn K cdv x = true ∧ L2.Binds K (PySem.W.fnOf x x pg bg sg dV kV doc pm an cdv ct) [a] [] ∧ FnScope Ng [a] sg ∧ Ng[0]? = some a ∧ 2 ≤ Ng.length ∧ Vis sg a ∧
    (a == ("__debug__" : Str)) = false ∧ (a == ("__classdict__" : Str)) = false ∧ ∀ X : Cx, X.prog = P → X.w = w → X.K = K → X.mg = mg → X.base = base → ∀ q, GivesTo X Ng x sg g cdv bg a q (TTried K Ng ok (hsA K hs))
  exm : ∀ e ∈ hs, ∀ e' ∈ hs, PySem.W.exmOne K (.ref (He.ga K e.1)) (.ref (He.ga K e'.1)) = some (decide (e'.1 = e.1))
theorem hpick_mem : ∀ {hs : HS} {C : Str} {v : HV}, hpick hs C = some v → ∃ e ∈ hs, e.1 = C
  | [], _, _, h => by cases h
  | (C1, o, v1) :: hs, C, v, h => by
    rw [hpick] at h
    split at h
    · rename_i e
      exact ⟨_, List.mem_cons_self, e⟩
    · obtain ⟨e, he, z⟩ := hpick_mem h
      exact ⟨e, List.mem_cons_of_mem _ he, z⟩
section
variable {X : Cx} {E : XK} {O : List Nat} {x : Str} {ok : OKF} {hs : HS} {params : Arguments} {body : Expr} {scope : Scope} {m : EM D} {k k' : Nat} {p lpos pos : Pos} {c P : Addr}
theorem ve_tried (G : GTr X.prog X.w X.K X.mg X.base x ok hs) (hg : Gl X x) (TB : TabB X.base X.mg c P) (hcode : X.env.code = .ref c) (hmT : (P, X.env.qual ++ "<lambda>") ∈ TabC.T) (hu : ∀ p ∈ TabC.T, p.1 = P → p.2 = X.env.qual ++ "<lambda>") (hr : Room k' X.A) (hk : k + 2 ≤ k')
    (L0 : LamS X.env.scope scope) (hdef : defaultsOf params X.env = ([], [])) (hbind : ∀ (q : Str) (cl : List (Str × Addr)) (pm cv ctv : Value), bindArgs (PySem.W.kla_fn "<lambda>" q params body scope cl pm cv ctv) ⟨[], []⟩ = pure [])
    (hL : ∀ (A : Around) (outer : List Env) (s : Shared) (H : Hp) (E : XK) (f c' : Addr), Room k (A.deeper (lamEnv X scope s.heap.objs.size f c')) → VE (lamCx X A outer s H E scope f c') (EU H E) [] body m)
    (hdb : (x == ("__debug__" : Str)) = false := by decide) : VE X E O (.Call (.Name x p) [.Lambda params body scope lpos] [] pos) (eTried ok hs O m) := by
  obtain ⟨Ng, a, sg, g, oc, od, pg, bg, dV, kV, doc, pm, an, cdv, ct, osl, h1, h2, h3, h4, h5, h6, h7, h7b, h8, h9, h10, hG⟩ := G.ex
  -- one reading for all places
  let Ok (E : XK) (z : LC) : Prop := Room k (z.1.deeper (lamEnv X scope z.2.2.1.heap.objs.size z.2.2.2.2.1 z.2.2.2.2.2))
  have hc : ∀ (E : XK) (z : LC) (h : Ok E z), VE (lamCx X z.1 z.2.1 z.2.2.1 z.2.2.2.1 E scope z.2.2.2.2.1 z.2.2.2.2.2) (EU z.2.2.2.1 E) [] body m := fun E z h => hL z.1 z.2.1 z.2.2.1 z.2.2.2.1 E _ _ h
  let t (E : XK) : TE := fun σ H Q => ∀ (z : LC) (h : Ok E z), Classical.choose (hc E z h).2 σ H Q
  have hbody : ∀ (A : Around) (outer : List Env) (s : Shared) (H : Hp) (E : XK) (f c' : Addr), Room k (A.deeper (lamEnv X scope s.heap.objs.size f c')) → PE (lamCx X A outer s H E scope f c') body (t E) := fun A outer s H E f c' hr =>
    ⟨fun pins s1 σ H1 Q I q => (Classical.choose_spec (hc E (A, outer, s, H, f, c') hr).2).1.run pins s1 σ H1 Q I (q (A, outer, s, H, f, c') hr)⟩
  refine ⟨mn_tried, _, pe_tried (k := k) hg h1 h2 h3 h4 h5 h6 h7 h8 (hG X rfl rfl rfl rfl rfl _) TB hcode hmT hu (DL.Room.le hr hk) L0 hdef hbind hbody hdb h9 h10, fun aS A0 H0 σ H s n xq Q S L hm => ?_⟩
  obtain ⟨xq0, Q0, hx, hq, hmm⟩ := hm
  have tb0 : TbA H := by
    obtain ⟨_, _, _, _, _, _, _, _, _, _, _, _, _, _, _, z⟩ := S.st
    exact z
  refine ⟨tb0, fun H1 kp tb f => ?_⟩
  have S1 := S.step (kps_of kp) (S.st.kpa kp tb)
  have S2 := S1.seal
  have eA : AV aS (AV aS A0 O σ) [] [] = AV aS A0 O σ := AV.of AV.st
  have eB : AV aS (AV aS A0 O σ) [] σ = AV aS A0 O σ := by
    funext b
    refine propext ⟨fun z => ?_, fun z => .inl z⟩
    rcases z with z | z | ⟨j, hj, _⟩
    · exact z
    · exact .inr (.inl z)
    · cases hj
  let Ech : XK := fun cls d H' => ∃ (C : Str) (fs : List (Str × D)) (n' : Nat), cls = .ref (He.ga X.K C) ∧ KpS aS H1 H' ∧ StA X.K aS H' n' ∧ (match d with | none => fs = [] | some a => ∃ ys, H1 a = none ∧ H' a = some (.xd ys) ∧ RepF X.K aS H' (AV aS A0 O σ) fs ys) ∧ xq0 (C, fs) n'
  have LE : LX X.K Ech aS (AV aS A0 O σ) H1 xq0 := fun C fs n' d H' k1 st1 r1 q1 => ⟨C, fs, n', rfl, k1, st1, by rw [eA] at r1; exact r1, q1⟩
  refine ⟨Ech, fun cls d H' z => ?_, fun z h => ?_⟩
  · obtain ⟨C, fs, n', ec, k1, st1, r1, q1⟩ := z
    subst ec
    obtain ⟨hv, y, ep, ey, qy⟩ := hx _ _ q1
    have c1 : Cn X.K aS H' (AV aS A0 O σ) n' := (S1.step k1 st1).cn
    obtain ⟨e0, he0, hC⟩ := hpick_mem ep
    have hC : e0.1 = C := hC
    refine hw_of AV.st c1 r1 ey (fun v H2 k2 st2 r2 => qy v H2 (((kps_of kp).trans k1).trans k2) st2 r2) hs (fun e he => ?_) ep
    rw [← hC]
    exact G.exm e0 he0 e he
  · refine (Classical.choose_spec (hc Ech z h).2).2 aS ⟨AV aS A0 O σ, none⟩ H1 σ H1 (hideL s O) n xq0 _ S2 LE.eu ((hc Ech z h).1 _ _ _ _ _ (fun d n' q v H' k1 st1 r1 => ?_) hmm)
    have r1 : Rep X.K aS H' (AV aS A0 O σ) d v := by rw [← eB]; exact r1
    have q2 := hq d n' q
    have hl : 1 < (L2.start Ng [V.ref f]).length := by
      unfold L2.start
      rw [List.length_append, List.length_map, List.length_replicate]
      show 1 < 1 + (Ng.length - 1)
      omega
    cases ok with
    | drop => exact ⟨.non, List.getElem?_set_self hl, q2 .non H' ((kps_of kp).trans k1) st1 rep_non⟩
    | told w =>
      refine ⟨by rw [sizeLine_eq]; decide, fun pp hp => ⟨.ref pp, List.getElem?_set_self (by rw [List.length_set]; exact hl), ?_⟩⟩
      refine q2 (.ref pp) _ (((kps_of kp).trans k1).trans (KpS.upd hp)) (st1.upd hp) (rep_tup (.inl upd_same) ?_)
      exact RepL.kp (KpS.upd hp) st1 AV.st (RepL.cons rep_str (RepL.cons r1 RepL.nil))
end
end DL
namespace HX
open PySem L2 He
/-! what is asked of an error's class -/
theorem oexB_ok {K : PySem.W.Frag} {C : Addr} (h : oexB K C = true) : OexC K C := by
  obtain ⟨h1, h⟩ := ba h
  obtain ⟨h2, h⟩ := ba h
  obtain ⟨h3, h⟩ := ba h
  obtain ⟨h4, h5⟩ := ba h
  refine ⟨?_, of_decide_eq_true h2, of_decide_eq_true h3, of_decide_eq_true h4, h5⟩
  unfold oexK at h1
  split at h1
  · rename_i dd cd sl lk
    split at h1
    · rename_i C' bm k0 k1 k2 k3 n k5 em es
      obtain ⟨a1, a2⟩ := ba h1
      obtain ⟨b1, b2⟩ := ba a1
      obtain ⟨c1, c2⟩ := ba a2
      obtain ⟨d1, d2⟩ := ba c1
      have e1 := of_decide_eq_true b1
      have e2 := of_decide_eq_true b2
      obtain ⟨nm, bs, mro, ns, qn, hd, sn, sub, ab, col, del⟩ := cd
      obtain ⟨sl⟩ := sl
      have em : mro = .ref C' :: bm := em
      have es : sl = [k0, k1, k2, k3, some (.builtin n), k5] := es
      have d1 : (!del) = true := d1
      have d2 : hd = true := d2
      have d1 : del = false := by cases del <;> first | rfl | cases d1
      clear a1 a2 b1 b2 c1 h1 h2 h3 h4 h5 h
      subst e1 e2
      rw [em, es, d1, d2] at lk
      exact ⟨nm, qn, ns, bs, bm, sn, sub, ab, col, dd, k0, k1, k2, k3, k5, lk, c2⟩
    · cases h1
  · cases h1
/-! its __init__ -/
theorem err_ok {P : Program} {K : PySem.W.Frag} {d : ErrD} (e : fnE K (d.f K) = d.val) (c : d.ok P K = true) (ht : (P.main.scope.names.lookup ("super" : Str)).isSome = false) : PySem.W.nsIn K mainGlobals d.x = some (some (.ref (ga K d.x))) ∧ OexC K (ga K d.x) ∧ PySem.W.findIn K (.ref (ga K d.x)) "__init__" = some (some (.ref (d.f K))) ∧ PySem.W.typeIn K (.ref (d.f K)) = some (.type "function") ∧
    (∀ g ∈ d.fl, PySem.W.findIn K (.ref (ga K d.x)) g = some none) ∧ ∃ (F : NdefX.NF) (oc : Value) (od : Option Addr) (doc pm ctv : Value) (osl : Array (Option Value)), ES.SupF P K (ga K d.x) (d.f K) F ∧ K.lookup (d.f K) = some ⟨oc, od, .func (F.fd doc pm ctv), osl⟩ ∧ F.name = "__init__" ∧ F.qual = d.qual ∧ F.params = d.params ∧ F.body = d.body ∧ F.scope = d.scope := by
  obtain ⟨c1, c⟩ := ba c
  obtain ⟨a1, a2⟩ := ba c1
  obtain ⟨c2, c⟩ := ba c
  obtain ⟨b1, b2⟩ := ba c2
  obtain ⟨c3, c⟩ := ba c
  obtain ⟨g1, g2⟩ := ba c3
  obtain ⟨c4, c⟩ := ba c
  obtain ⟨h1, h2⟩ := ba c4
  obtain ⟨h3, h4⟩ := ba c
  refine ⟨eqO_ok a1, oexB_ok a2, eqO_ok b1, of_decide_eq_true b2, fun g hg => eqO_ok (List.all_eq_true.mp h4 g hg), ?_⟩
  unfold codB at g1
  unfold fnE at e
  cases lk : K.lookup (d.f K) with
  | none => rw [lk] at g1; cases g1
  | some o =>
    obtain ⟨oc, od, dt, osl⟩ := o
    rw [lk] at g1 e
    cases dt with
    | func fd =>
      obtain ⟨n1, n2, n3, n4, n5, n6, n7, n8, n9, n10, n11, n12, n13, n14, n15⟩ := fd
      have e2 : (some (n1, n2, n3, n4, n5, n6, n7.map (·.1), n15, plainD ⟨n1, n2, n3, n4, n5, n6, n7, n8, n9, n10, n11, n12, n13, n14, n15⟩) : FnE) = some (("__init__" : Str), d.qual, d.params, FuncBody.stmts d.body, d.scope, mainGlobals, [("__class__" : Str)], builtinsNs, true) := e
      simp only [Option.some.injEq, Prod.mk.injEq] at e2
      obtain ⟨i1, i2, i3, i4, i5, i6, i7, i8, i9⟩ := e2
      obtain ⟨j1, j2⟩ := ba i9
      obtain ⟨j2, j3⟩ := ba j2
      have q1 : n8 = .none := of_decide_eq_true j1
      have q2 : n9 = .none := of_decide_eq_true j2
      have q3 : n12 = none := Option.isNone_iff_eq_none.mp j3
      clear j1 j2 j3 i9 e
      subst i1 i2 i3 i4 i5 i6 i8 q1 q2 q3
      obtain ⟨k1, k2⟩ := ba g1
      dsimp only at k1 k2
      cases n13 with
      | ref cd =>
        obtain ⟨l1, l2⟩ := ba k1
        have fil : ∃ (ccl : Value) (cdd : Option Addr) (vs : Array Value) (ccs : Array (Option Value)) (fl : Str) (tf : Tok), K.lookup cd = some ⟨ccl, cdd, .fields vs, ccs⟩ ∧ vs[2]? = some (.str fl tf) ∧ ((P.main.file : Str) == fl) = true := by
          split at l2
          · rename_i c1 c2 vs c3 lc
            split at l2
            · rename_i fl tf ev
              exact ⟨c1, c2, vs, c3, fl, tf, lc, ev, l2⟩
            · cases l2
          · cases l2
        have cel : ∃ (cc : Addr) (o : Value) (dd : Option Addr) (sl : Array (Option Value)), n7 = [(("__class__" : Str), cc)] ∧ K.lookup cc = some ⟨o, dd, .cell (some (.ref (ga K d.x))), sl⟩ := by
          split at k2
          · rename_i z cc
            split at k2
            · rename_i c1 c2 C' c3 lc
              have eC := of_decide_eq_true k2
              rw [eC] at lc
              have ez : z = ("__class__" : Str) := by simpa using i7
              exact ⟨cc, c1, c2, c3, by rw [ez], lc⟩
            · cases k2
          · cases k2
        refine ⟨⟨"__init__", d.qual, d.params, d.body, d.scope, n7, cd⟩, oc, od, n10, n11, n14, osl, ⟨⟨oc, od, n10, n11, n14, osl, lk⟩, l1, fil, cel, of_decide_eq_true g2, of_decide_eq_true h1, of_decide_eq_true h2, eqO_ok h3, ht⟩, rfl, rfl, rfl, rfl, rfl, rfl⟩
      | _ => cases k1
    | _ => cases g1
/-! ### the Hook -/
structure SaysE (P : Program) (fa : List Fa) (fn : List DefD) (er : List ErrD) (tf : List Defn) (ex : PySem.W.Frag → Bool) (w : World) (h : Heap) (K : PySem.W.Frag) : Prop where
  d : SaysD fa fn K
  more : ex K = true
  errs : er.map (fun e => fnE K (e.f K)) = er.map ErrD.val
  eok : ∀ e ∈ er, e.ok P K = true
  hd : ∀ p ∈ tf, PySem.W.codeHdIn K (cT K p).1 (cT K p).2 = true
  out : ∀ p ∈ tf, K.lookup (cT K p).2 = none
  empty : ∀ p ∈ tf, h.get? (cT K p).2 = some { cls := .none, data := .fields #[] }
theorem saysE_of {P : Program} {n : Nat} {fa : List Fa} {fn : List DefD} {er : List ErrD} {tf : List Defn} {ex : PySem.W.Frag → Bool} {w : World} {h : Heap} (e : obsE P n fa fn er tf ex h.get? = valE fn er) : SaysE P fa fn er tf ex w h (frT h.get? (asE h.get? n)) := by
  have e1 : obsD fa fn (frT h.get? (asE h.get? n)) = valD fn := congrArg (fun z : AlE => z.1) e
  have e2 := congrArg (fun z : AlE => z.2.1) e
  have e3 := congrArg (fun z : AlE => z.2.2) e
  obtain ⟨h1, h2⟩ := ba e2
  obtain ⟨h0, h1⟩ := ba h1
  have look : ∀ p ∈ tf, PySem.W.codeHdIn (frT h.get? (asE h.get? n)) (cT (frT h.get? (asE h.get? n)) p).1 (cT (frT h.get? (asE h.get? n)) p).2 = true ∧ ∃ o, h.get? (cT (frT h.get? (asE h.get? n)) p).2 = some o ∧ emptyTab o = true := fun p hp => by
    obtain ⟨h3, h4⟩ := ba (List.all_eq_true.mp h2 p hp)
    refine ⟨h3, ?_⟩
    revert h4
    cases h.get? (cT (frT h.get? (asE h.get? n)) p).2 with
    | none => intro z; cases z
    | some o => intro z; exact ⟨o, rfl, z⟩
  exact { d := e1, more := h0, errs := e3, eok := fun e he => List.all_eq_true.mp h1 e he, hd := fun p hp => (look p hp).1,
          out := fun p hp => let ⟨_, _, q, z⟩ := look p hp; frT_none q z,
          empty := fun p hp => let ⟨_, _, q, z⟩ := look p hp; by rw [q, emptyTab_eq z] }
theorem SaysE.err {P : Program} {fa : List Fa} {fn : List DefD} {er : List ErrD} {tf : List Defn} {ex : PySem.W.Frag → Bool} {w : World} {h : Heap} {K : PySem.W.Frag} (c : SaysE P fa fn er tf ex w h K) (i : Nat) {e : ErrD} (he : er[i]? = some e) : fnE K (e.f K) = e.val ∧ e.ok P K = true := by
  have z : (er.map fun e => fnE K (e.f K))[i]? = (er.map ErrD.val)[i]? := by rw [c.errs]
  rw [List.getElem?_map, List.getElem?_map, he] at z
  exact ⟨Option.some.inj z, c.eok e (List.mem_of_getElem? he)⟩
end HX
namespace HX
open PySem PySem.Spec PyProof.Rows L2 He DL
variable [TabC]
section
variable {P : Program} {w : World} {K : PySem.W.Frag} {mg : Str → Option Value} {base h : Heap} {d : ErrD} {slf0 fld y txt : Str} {jc : Nat} {pc p0 p1 p2 p3 p4 q1 q2 q3 q4 : Pos} {N ps : List Str}
/-- an error of one field -/
theorem gex1 (X : K.In h) (G : h.Ns mainGlobals mg) (z : fnE K (d.f K) = d.val ∧ d.ok P K = true) (ht : (P.main.scope.names.lookup ("super" : Str)).isSome = false) (fs : mg "super" = none)
    (hb : d.body = .Expr (ES.supCall (.Constant (.str txt) jc pc) p0 p1 p2 p3) p4 :: [ES.stF slf0 fld y q1 q2 q3 q4]) (hfl : d.fl = [fld]) (hN : N = [slf0, y, "__class__"]) (hps : ps = [slf0, y])
    (hsc : NdefX.nscB N ps ["__class__"] d.scope = true) (hsup : d.scope.names.lookup ("super" : Str) = some .globalImplicit) (hslf : d.scope.names.lookup slf0 = some .local) (hy : d.scope.names.lookup y = some .local)
    (hpar : ∃ ar : Arg, (d.params.posonlyargs ++ d.params.args).head? = some ar ∧ ar.arg = slf0) (hd0 : (slf0 == ("__debug__" : Str)) = false) (hd1 : (y == ("__debug__" : Str)) = false) (hc0 : (slf0 == ("__classdict__" : Str)) = false) (hc1 : (y == ("__classdict__" : Str)) = false)
    (hbind : ∀ (cl : List (Str × Addr)) (c : Addr) (doc pm ctv u v : Value), bindArgs (PySem.W.fnX "__init__" d.qual d.params d.body d.scope cl .none .none doc pm none (.ref c) ctv) { pos := [u, v] } = pure [(slf0, u), (y, v)])
    (hev : ∀ (F : NdefX.NF) (f L : Addr), F.scope = d.scope → F.qual = d.qual → ∃ pl : Sem Bool, eval (ES.supCall (.Constant (.str txt) jc pc) p0 p1 p2 p3) (NdefX.envF F f L) = (do
      let ov ← attributeBase (.Call (.Name "super" p0) [] [] p1) "__init__" (NdefX.envF F f L) (eval (.Call (.Name "super" p0) [] [] p1) (NdefX.envF F f L))
      standAt p2.atName
      let (g, first) ← holding [ov] (getMethod ov "__init__" pl)
      callWith p3 g first (backTo p3 (starEach [.Constant (.str txt) jc pc] (NdefX.envF F f L))) []))
    (hsw : ∀ (F : NdefX.NF) (f L : Addr), F.scope = d.scope → swapsWith (ES.supCall (.Constant (.str txt) jc pc) p0 p1 p2 p3) none p4.line (NdefX.envF F f L) = pure false)
    (hsw2 : ∀ (F : NdefX.NF) (f L : Addr), F.scope = d.scope → swapsWith (.Name y q3) (some (.Attribute (.Name slf0 q1) fld q2)) q4.line (NdefX.envF F f L) = pure false) : GEx P w K mg base d.x 1 [fld] := by
  obtain ⟨a1, T, a3, a4, a5, F, oc, od, doc, pm, ctv, osl, SF, lk, n1, n2, n3, n4, n5⟩ := err_ok z.1 z.2 ht
  have SS : ES.SupS slf0 N ps F := ⟨by rw [n5]; exact NdefX.nscope_by hsc, by rw [n5]; exact hsup, by rw [n5]; exact (NdefX.nscope_by hsc).frk _ (List.mem_singleton.mpr rfl), by rw [n5]; exact hslf, by rw [n3]; exact hpar, by rw [hN]; rfl⟩
  have hf : PySem.W.findIn K (.ref (ga K d.x)) fld = some none := a5 fld (by rw [hfl]; exact List.mem_singleton.mpr rfl)
  refine ⟨d.f K, F.fd doc pm ctv, ps, ?_, T, a3, a4, ?_, ?_⟩
  · exact He.glo_ok X G (show eqO _ _ = true from decide_eq_true a1)
  · refine .all fun us hl => ?_
    rw [hps] at hl ⊢
    match us, hl with
    | [u, v], _ =>
      have e := hbind F.cl F.c doc pm ctv u v
      rw [← n2, ← n3, ← n4, ← n5, ← n1] at e
      exact e
  · exact ES.init_of (n := 1) T SF SS fs lk (by rw [n4]; exact hb) (by rw [hps]; rfl) (fun L => hev F _ L n5 n2) (fun L => hsw F _ L n5) fun A outer s H E => ES.rest1 T hf SS (by rw [hN]; rfl) (by rw [n5]; exact hy) hd0 hd1 hc0 hc1 (fun L => hsw2 F _ L n5) A outer s H E
end
end HX
namespace DL
open PySem PySem.Spec PyProof.Rows L2
variable [TabC]
/-! ### readings that are plain functions -/
inductive Res (α : Type) where
  | ok (a : α) | ex (x : XD) | bad
def Res.bind {α β : Type} : Res α → (α → Res β) → Res β
  | .ok a, k => k a
  | .ex x, _ => .ex x
  | .bad, _ => .bad
/-- no error may leave -/
def Res.calm {α : Type} : Res α → Res α
  | .ok a => .ok a
  | _ => .bad
def ofO {α : Type} : Option α → Res α
  | some a => .ok a
  | none => .bad
def ofB : Option D → Res Bool
  | some (.bl b) => .ok b
  | _ => .bad
abbrev FM (α : Type) := Ev → Res α
def Res.wp {α : Type} (r : Res α) (xq : XQ) (n : Nat) (Q : α → Nat → Prop) : Prop := match r with
  | .ok a => Q a n
  | .ex x => xq x n
  | .bad => False
def up {α : Type} (f : FM α) : EM α := fun xq s n Q => (f s).wp xq n Q
theorem wp_bind {α β : Type} {r : Res α} {k : α → Res β} {xq : XQ} {n : Nat} {Q : β → Nat → Prop} (h : (r.bind k).wp xq n Q) : r.wp xq n fun a n' => (k a).wp xq n' Q := by
  cases r <;> exact h
theorem wp_ofO {α : Type} {o : Option α} {xq : XQ} {n : Nat} {Q : α → Nat → Prop} (h : (ofO o).wp xq n Q) : ∃ a, o = some a ∧ Q a n := by
  cases o with
  | none => exact h.elim
  | some a => exact ⟨a, rfl, h⟩
theorem wp_ofB {o : Option D} {xq : XQ} {n : Nat} {Q : Bool → Nat → Prop} (h : (ofB o).wp xq n Q) : ∃ k, o = some (.bl k) ∧ Q k n := by
  unfold ofB at h
  split at h
  · exact ⟨_, rfl, h⟩
  · exact h.elim
theorem wp_mono {α : Type} {r : Res α} {xq : XQ} {n : Nat} {Q Q' : α → Nat → Prop} (hq : ∀ a, Q a n → Q' a n) (h : r.wp xq n Q) : r.wp xq n Q' := by
  cases r with
  | ok a => exact hq a h
  | _ => exact h
theorem wp_if {α : Type} {c : Bool} {a b : Res α} {xq : XQ} {n : Nat} {Q : α → Nat → Prop} (h : (if c = true then a else b).wp xq n Q) : if c = true then a.wp xq n Q else b.wp xq n Q := by
  cases c <;> exact h
theorem wp_dec {α : Type} {p : Prop} [Decidable p] {a : Res α} {xq : XQ} {n : Nat} {Q : α → Nat → Prop} (h : (if p then a else .bad).wp xq n Q) : p ∧ a.wp xq n Q := by
  by_cases z : p
  · rw [if_pos z] at h
    exact ⟨z, h⟩
  · rw [if_neg z] at h
    exact h.elim
theorem mn_up {α : Type} {f : FM α} : Mn (up f) := fun xq s n Q Q' hq h => wp_mono (fun a => hq a n) h
section
variable {X : Cx} {E : XK} {O : List Nat} {R : RK}
theorem lo {e : Expr} {m : EM D} {f : FM D} (h : VX R X E O e m) (le : ∀ xq s n Q, up f xq s n Q → m xq s n Q) : VX R X E O e (up f) := by
  obtain ⟨mn, t, p, q⟩ := h
  exact ⟨mn_up, t, p, fun aS A0 H0 σ H s n xq Q S L hm => q aS A0 H0 σ H s n xq Q S L (le _ _ _ _ hm)⟩
theorem loF {e : Expr} {m : EM D} {f : FM D} (h : VF X E O e m) (le : ∀ xq s n Q, up f xq s n Q → m xq s n Q) : VF X E O e (up f) := by
  obtain ⟨mn, t, p, q⟩ := h
  exact ⟨mn_up, t, p, fun aS A0 H0 σ H s n xq Q S L hm => q aS A0 H0 σ H s n xq Q S L (le _ _ _ _ hm)⟩
theorem loT {e : Expr} {m : EM Bool} {f : FM Bool} (h : VT X E O e m) (le : ∀ xq s n Q, up f xq s n Q → m xq s n Q) : VT X E O e (up f) := by
  obtain ⟨mn, t, p, q⟩ := h
  exact ⟨mn_up, t, p, fun aS A0 H0 σ H s n xq Q S L hm => q aS A0 H0 σ H s n xq Q S L (le _ _ _ _ hm)⟩
theorem loTs {es : List Expr} {m : EM Bool} {f : FM Bool} (h : VTs X E O es m) (le : ∀ xq s n Q, up f xq s n Q → m xq s n Q) : VTs X E O es (up f) := by
  obtain ⟨mn, t, p, q⟩ := h
  exact ⟨mn_up, t, p, fun aS A0 H0 σ H s n xq Q S L hm => q aS A0 H0 σ H s n xq Q S L (le _ _ _ _ hm)⟩
theorem loA {es : List Expr} {m : EM (List D)} {f : FM (List D)} (h : VA R X E O es m) (le : ∀ xq s n Q, up f xq s n Q → m xq s n Q) : VA R X E O es (up f) := by
  obtain ⟨mn, t, p, q⟩ := h
  exact ⟨mn_up, t, p, fun aS A0 H0 σ H s n xq Q S L hm => q aS A0 H0 σ H s n xq Q S L (le _ _ _ _ hm)⟩
end
section
variable {xq : XQ} {s : Ev} {n : Nat} {a b c : FM D} {t u : FM Bool} {l : FM (List D)}
def fVar (i : Nat) : FM D := fun s => match s[i]? with
  | some (some d) => .ok d
  | _ => .bad
theorem le_var (i : Nat) : ∀ xq s n Q, up (fVar i) xq s n Q → eVar i xq s n Q := fun xq s n Q h => by
  unfold up fVar at h
  split at h
  · rename_i d e
    exact ⟨d, e, h⟩
  · exact h.elim
def fC (d : D) : FM D := fun _ => .ok d
theorem le_c {d : D} : ∀ xq s n Q, up (fC d) xq s n Q → eC d xq s n Q := fun _ _ _ _ h => h
def fNil : FM (List D) := fun _ => .ok []
theorem le_nil : ∀ xq s n Q, up fNil xq s n Q → eNil xq s n Q := fun _ _ _ _ h => h
def fCons (a : FM D) (l : FM (List D)) : FM (List D) := fun s => (a s).bind fun d => (l s).bind fun ds => .ok (d :: ds)
theorem le_cons : ∀ xq s n Q, up (fCons a l) xq s n Q → eCons (up a) (up l) xq s n Q := fun xq s n Q h => by
  unfold eCons up
  exact wp_mono (fun d h => wp_bind h) (wp_bind h)
def fTup (l : FM (List D)) : FM D := fun s => (l s).bind fun ds => if ds.length ≤ 1000 then .ok (.tup ds) else .bad
theorem le_tup : ∀ xq s n Q, up (fTup l) xq s n Q → eTup (up l) xq s n Q := fun xq s n Q h => by
  unfold eTup up
  exact wp_mono (fun d h => wp_dec h) (wp_bind h)
def fLst (l : FM (List D)) : FM D := fun s => (l s).bind fun ds => if ds.length ≤ 1000 then .ok (.lst ds) else .bad
theorem le_lst : ∀ xq s n Q, up (fLst l) xq s n Q → eLst (up l) xq s n Q := fun xq s n Q h => by
  unfold eLst up
  exact wp_mono (fun d h => wp_dec h) (wp_bind h)
def fBin (f : D → D → Option D) (a b : FM D) : FM D := fun s => (a s).bind fun x => (b s).bind fun y => ofO (f x y)
theorem le_bin {f : D → D → Option D} : ∀ xq s n Q, up (fBin f a b) xq s n Q → eBin f (up a) (up b) xq s n Q := fun xq s n Q h => by
  unfold eBin up
  exact wp_mono (fun d h => wp_mono (fun _ h => wp_ofO h) (wp_bind h)) (wp_bind h)
def fBinT (f : D → D → Option D) (a b : FM D) : FM Bool := fun s => (a s).bind fun x => (b s).bind fun y => ofB (f x y)
theorem le_binT {f : D → D → Option D} : ∀ xq s n Q, up (fBinT f a b) xq s n Q → eBinT f (up a) (up b) xq s n Q := fun xq s n Q h => by
  unfold eBinT up
  exact wp_mono (fun d h => wp_mono (fun _ h => wp_ofB h) (wp_bind h)) (wp_bind h)
def fBlt (f : List D → Option D) (l : FM (List D)) : FM D := fun s => (l s).bind fun ds => ofO (f ds)
theorem le_blt {f : List D → Option D} : ∀ xq s n Q, up (fBlt f l) xq s n Q → eBlt f (up l) xq s n Q := fun xq s n Q h => by
  unfold eBlt up
  exact wp_mono (fun d h => wp_ofO h) (wp_bind h)
/-- a truth -/
def asB : D → Res Bool
  | .bl b => .ok b
  | _ => .bad
theorem wp_asB {d : D} {xq : XQ} {n : Nat} {Q : Bool → Nat → Prop} (h : (asB d).wp xq n Q) : ∃ c, d = .bl c ∧ Q c n := by
  unfold asB at h
  split at h
  · exact ⟨_, rfl, h⟩
  · exact h.elim
def fAnd (a b : FM D) : FM D := fun s => (a s).bind fun x => (asB x).bind fun c => if c = true then b s else .ok (.bl false)
theorem le_and : ∀ xq s n Q, up (fAnd a b) xq s n Q → eAnd (up a) (up b) xq s n Q := fun xq s n Q h => by
  unfold eAnd up
  exact wp_mono (fun d h => by
    obtain ⟨c, e, q⟩ := wp_asB (wp_bind h)
    exact ⟨c, e, wp_if q⟩) (wp_bind h)
def fOr (a b : FM D) : FM D := fun s => (a s).bind fun x => (asB x).bind fun c => if c = true then .ok (.bl true) else b s
theorem le_or : ∀ xq s n Q, up (fOr a b) xq s n Q → eOr (up a) (up b) xq s n Q := fun xq s n Q h => by
  unfold eOr up
  exact wp_mono (fun d h => by
    obtain ⟨c, e, q⟩ := wp_asB (wp_bind h)
    exact ⟨c, e, wp_if q⟩) (wp_bind h)
def fNot (a : FM D) : FM D := fun s => (a s).bind fun x => (asB x).bind fun c => .ok (.bl (!c))
theorem le_not : ∀ xq s n Q, up (fNot a) xq s n Q → eNot (up a) xq s n Q := fun xq s n Q h => by
  unfold eNot up
  exact wp_mono (fun d h => wp_asB (wp_bind h)) (wp_bind h)
def fIf (t : FM Bool) (a b : FM D) : FM D := fun s => (t s).bind fun c => if c = true then a s else b s
def fVal (a : FM D) : FM Bool := fun s => (a s).bind asB
theorem le_val : ∀ xq s n Q, up (fVal a) xq s n Q → tVal (up a) xq s n Q := fun xq s n Q h => by
  unfold tVal up
  exact wp_mono (fun d h => wp_asB h) (wp_bind h)
def fAndT (t u : FM Bool) : FM Bool := fun s => (t s).bind fun c => if c = true then u s else .ok false
theorem le_andT : ∀ xq s n Q, up (fAndT t u) xq s n Q → tAndD (up t) (up u) xq s n Q := fun xq s n Q h => by
  unfold tAndD up
  exact wp_mono (fun d h => wp_if h) (wp_bind h)
def fOrT (t u : FM Bool) : FM Bool := fun s => (t s).bind fun c => if c = true then .ok true else u s
theorem le_orT : ∀ xq s n Q, up (fOrT t u) xq s n Q → tOrD (up t) (up u) xq s n Q := fun xq s n Q h => by
  unfold tOrD up
  exact wp_mono (fun d h => wp_if h) (wp_bind h)
def fNotT (t : FM Bool) : FM Bool := fun s => (t s).bind fun c => .ok (!c)
theorem le_notT : ∀ xq s n Q, up (fNotT t) xq s n Q → tNotD (up t) xq s n Q := fun xq s n Q h => by
  unfold tNotD up
  exact wp_bind h
def fYes : FM Bool := fun _ => .ok true
theorem le_yes : ∀ xq s n Q, up fYes xq s n Q → tYesD xq s n Q := fun _ _ _ _ h => h
def fNeg (a : FM D) : FM D := fun s => (a s).bind fun x => match x with
  | .int i => .ok (.int (-i))
  | _ => .bad
theorem le_neg : ∀ xq s n Q, up (fNeg a) xq s n Q → eNeg (up a) xq s n Q := fun xq s n Q h => by
  unfold eNeg up
  exact wp_mono (fun d h => by
    cases d <;> first | exact h.elim | exact ⟨_, rfl, h⟩) (wp_bind h)
def fChainT (f g : D → D → Option D) (a b c : FM D) : FM Bool := fun s => (a s).bind fun x => (b s).bind fun y => (ofB (f x y)).bind fun k => if k = true then (c s).bind fun z => ofB (g y z) else .ok false
theorem le_chainT {f g : D → D → Option D} : ∀ xq s n Q, up (fChainT f g a b c) xq s n Q → eChainT f g (up a) (up b) (up c) xq s n Q := fun xq s n Q h => by
  unfold eChainT up
  exact wp_mono (fun x h => wp_mono (fun y h => by
    obtain ⟨k, e, q⟩ := wp_ofB (wp_bind h)
    refine ⟨k, e, ?_⟩
    cases k with
    | false => exact q
    | true =>
        rw [if_pos rfl] at q ⊢
        exact wp_mono (fun _ h => wp_ofB h) (wp_bind q)) (wp_bind h)) (wp_bind h)
def fNone : FM (Option Int) := fun _ => .ok none
def fSome (a : FM D) : FM (Option Int) := fun s => (a s).bind fun x => match x with
  | .int i => .ok (some i)
  | _ => .bad
theorem wp_some {Q : Option Int → Nat → Prop} (h : up (fSome a) xq s n Q) : oSome (up a) xq s n Q := by
  unfold oSome up
  exact wp_mono (fun d h => by
    cases d <;> first | exact h.elim | exact ⟨_, rfl, h⟩) (wp_bind h)
def fSl (a : FM D) (lo hi : FM (Option Int)) : FM D := fun s => (a s).bind fun d => (lo s).bind fun i => (hi s).bind fun j => ofO (dSl d i j)
def fDget (o k x : FM D) : FM D := fun s => (o s).bind fun d => match d with
  | .dic kvs => (k s).bind fun kd => (x s).bind fun xd => (ofO (keyD kd)).bind fun kk => .ok ((lookK kvs kk).getD xd)
  | _ => .bad
end
end DL
namespace DL
open PySem PySem.Spec PyProof.Rows L2
variable [TabC]
/-! ### slices, calls -/
section
variable {X : Cx} {E : XK} {O : List Nat} {a b c o : FM D} {l : FM (List D)}
theorem loO {e : Option Expr} {m : EM (Option Int)} {f : FM (Option Int)} (h : VO X E O e m) (le : ∀ xq s n Q, up f xq s n Q → m xq s n Q) : VO X E O e (up f) := by
  obtain ⟨mn, t, p, q⟩ := h
  exact ⟨mn_up, t, p, fun aS A0 H0 σ H s n xq Q S L hm => q aS A0 H0 σ H s n xq Q S L (le _ _ _ _ hm)⟩
theorem le_none : ∀ xq s n Q, up fNone xq s n Q → oNone xq s n Q := fun _ _ _ _ h => h
theorem le_some : ∀ xq s n Q, up (fSome a) xq s n Q → oSome (up a) xq s n Q := fun _ _ _ _ h => wp_some h
theorem le_sl {i j : FM (Option Int)} : ∀ xq s n Q, up (fSl a i j) xq s n Q → eSl (up a) (up i) (up j) xq s n Q := fun xq s n Q h => by
  unfold eSl up
  exact wp_mono (fun d h => wp_mono (fun i h => wp_mono (fun j h => wp_ofO h) (wp_bind h)) (wp_bind h)) (wp_bind h)
abbrev FFn := List D → Res D
def FSp.of (f : FFn) : FSp := ⟨fun ds n Q xq => (f ds).wp xq n Q, fun _ _ _ _ _ hq h => wp_mono (fun a => hq a _) h⟩
def fCall (len : Nat) (f : FFn) (dds : List D) (l : FM (List D)) : FM D := fun s => (l s).bind fun ds => if (ds ++ dds).length = len then f (ds ++ dds) else .bad
theorem le_call {len : Nat} {f : FFn} {dds : List D} : ∀ xq s n Q, up (fCall len f dds l) xq s n Q → eCall len (FSp.of f) dds (up l) xq s n Q := fun xq s n Q h => by
  unfold eCall up
  exact wp_mono (fun d h => wp_dec h) (wp_bind h)
def fMeth (C mn : Str) (len : Nat) (f : FFn) (dds : List D) (o : FM D) (l : FM (List D)) : FM D := fun s => (o s).bind fun d => match d with
  | .obj C' fs => if C' = C ∧ fs.lookup mn = none then (l s).bind fun ds => if (d :: (ds ++ dds)).length = len then f (d :: (ds ++ dds)) else .bad else .bad
  | _ => .bad
def isObj : D → Bool
  | .obj _ _ => true
  | _ => false
def fMake (len : Nat) (f : FFn) (dds : List D) (l : FM (List D)) : FM D := fun s => (l s).bind fun ds => if (ds ++ dds).length + 1 = len then (f (ds ++ dds)).bind fun d => if isObj d = true then .ok d else .bad else .bad
theorem le_make {len : Nat} {f : FFn} {dds : List D} : ∀ xq s n Q, up (fMake len f dds l) xq s n Q → eMake len (FSp.of f) dds (up l) xq s n Q := fun xq s n Q h => by
  unfold eMake up
  refine wp_mono (fun ds h => ?_) (wp_bind h)
  obtain ⟨e, h⟩ := wp_dec h
  refine ⟨e, ?_⟩
  show (f (ds ++ dds)).wp xq n fun d n2 => (∃ C fs, d = D.obj C fs) ∧ Q d n2
  refine wp_mono (fun d h => ?_) (wp_bind h)
  obtain ⟨z, h⟩ := wp_dec h
  cases d with
  | obj C fs => exact ⟨⟨C, fs, rfl⟩, h⟩
  | _ => cases z
end
/-! ### targets, what is walked -/
abbrev FG := D → Ev → Option Ev
abbrev FGs := List D → Ev → Option Ev
def upG (g : FG) : DG := fun d s Q => ∃ s', g d s = some s' ∧ Q s'
def upGs (g : FGs) : DGs := fun d s Q => ∃ s', g d s = some s' ∧ Q s'
def fgNm (i : Nat) : FG := fun d s => some (s.set i (some d))
def fgTp (g : FGs) : FG := fun d s => match d with
  | .tup ds => g ds s
  | _ => none
def fgsNil : FGs := fun ds s => match ds with
  | [] => some s
  | _ => none
def fgsCons (g : FG) (r : FGs) : FGs := fun ds s => match ds with
  | d :: dr => (g d s).bind (r dr)
  | [] => none
theorem lg_nm {i : Nat} : ∀ d s Q, upG (fgNm i) d s Q → gNm i d s Q := fun d s Q ⟨s', e, q⟩ => by cases e; exact q
theorem lg_tp {g : FGs} {g' : DGs} (h : ∀ d s Q, upGs g d s Q → g' d s Q) : ∀ d s Q, upG (fgTp g) d s Q → gTp g' d s Q := fun d s Q ⟨s', e, q⟩ => by
  cases d with
  | tup ds => exact ⟨ds, rfl, h _ _ _ ⟨s', e, q⟩⟩
  | _ => cases e
theorem lgs_nil : ∀ d s Q, upGs fgsNil d s Q → gsNil d s Q := fun d s Q ⟨s', e, q⟩ => by
  cases d with
  | nil => cases e; exact ⟨rfl, q⟩
  | cons d ds => cases e
theorem lgs_cons {g : FG} {g' : DG} {r : FGs} {r' : DGs} (h : ∀ d s Q, upG g d s Q → g' d s Q) (h2 : ∀ d s Q, upGs r d s Q → r' d s Q) : ∀ d s Q, upGs (fgsCons g r) d s Q → gsCons g' r' d s Q := fun d s Q ⟨s', e, q⟩ => by
  cases d with
  | nil => cases e
  | cons d ds =>
    obtain ⟨s1, e1, e2⟩ := Option.bind_eq_some_iff.mp e
    exact ⟨d, ds, rfl, h _ _ _ ⟨s1, e1, h2 _ _ _ ⟨s', e2, q⟩⟩⟩
section
variable {X : Cx} {E : XK} {O vs : List Nat} {a b : FM D} {l : FM (List D)}
theorem loG {tg : Expr} {g : DG} {f : FG} (h : VG X O vs tg g) (le : ∀ d s Q, upG f d s Q → g d s Q) : VG X O vs tg (upG f) := by
  obtain ⟨mn, gt, p, q⟩ := h
  exact ⟨fun d s Q Q' hq ⟨s', e, z⟩ => ⟨s', e, hq _ z⟩, gt, p, fun aS A0 H0 σ H s n d v Q QH S r hm => q aS A0 H0 σ H s n d v Q QH S r (le _ _ _ hm)⟩
theorem loI {OB hid : List Nat} {tg iter : Expr} {m : EM (List D)} {f : FM (List D)} (h : VI X E O OB hid tg iter m) (le : ∀ xq s n Q, up f xq s n Q → m xq s n Q) : VI X E O OB hid tg iter (up f) := by
  obtain ⟨mn, t, p, q⟩ := h
  exact ⟨mn_up, t, p, fun aS A0 H0 σ H s n xq Q S L hm => q aS A0 H0 σ H s n xq Q S L (le _ _ _ _ hm)⟩
theorem loIs {tg iter : Expr} {m : EM (List D)} {f : FM (List D)} (h : VIs X E O tg iter m) (le : ∀ xq s n Q, up f xq s n Q → m xq s n Q) : VIs X E O tg iter (up f) := by
  obtain ⟨mn, t, p, q⟩ := h
  exact ⟨mn_up, t, p, fun aS A0 H0 σ H s n xq Q S L hm => q aS A0 H0 σ H s n xq Q S L (le _ _ _ _ hm)⟩
def fIter (a : FM D) : FM (List D) := fun s => (a s).bind fun d => ofO (dIter d)
theorem le_iter : ∀ xq s n Q, up (fIter a) xq s n Q → eIter (up a) xq s n Q := fun xq s n Q h => by
  unfold eIter up
  exact wp_mono (fun d h => wp_ofO h) (wp_bind h)
def fRange1 (a : FM D) : FM (List D) := fun s => (a s).bind fun d => match d with
  | .int j => if j ≤ LIM ∧ -(2 ^ 62) ≤ j then .ok ((List.range j.toNat).map fun i => .int (i : Nat)) else .bad
  | _ => .bad
theorem le_range1 : ∀ xq s n Q, up (fRange1 a) xq s n Q → eRange1 (up a) xq s n Q := fun xq s n Q h => by
  unfold eRange1 up
  refine wp_mono (fun d h => ?_) (wp_bind h)
  cases d with
  | int j =>
    obtain ⟨e, h⟩ := wp_dec h
    exact ⟨j, rfl, e.1, e.2, h⟩
  | _ => exact h.elim
def fEnum (a : FM D) : FM (List D) := fun s => (a s).bind fun d => (ofO (dSeq d)).bind fun ds => .ok (pairsD 0 ds)
theorem le_enum : ∀ xq s n Q, up (fEnum a) xq s n Q → eEnum (up a) xq s n Q := fun xq s n Q h => by
  unfold eEnum up
  exact wp_mono (fun d h => wp_ofO (wp_bind h)) (wp_bind h)
def fZip (a b : FM D) : FM (List D) := fun s => (a s).bind fun x => (b s).bind fun y => ofO (dZip x y)
theorem le_zip : ∀ xq s n Q, up (fZip a b) xq s n Q → eZip (up a) (up b) xq s n Q := fun xq s n Q h => by
  unfold eZip up
  exact wp_mono (fun d h => wp_mono (fun _ h => wp_ofO h) (wp_bind h)) (wp_bind h)
def fOwnL (i : Nat) : FM (List D) := fun s => match s[i]? with
  | some (some (.lst ds)) => .ok ds
  | _ => .bad
theorem le_own {i : Nat} : ∀ xq s n Q, up (fOwnL i) xq s n Q → eOwn i xq s n Q := fun xq s n Q h => by
  unfold up fOwnL at h
  split at h
  · rename_i ds e
    exact ⟨ds, e, h⟩
  · exact h.elim
end
/-! ### comprehensions -/
def fLcL (g : FG) (t : FM Bool) (e : FM D) (s0 : Ev) : List D → Res (List D)
  | [] => .ok []
  | d :: ds => (ofO (g d s0)).bind fun s1 => (t s1).calm.bind fun c => if c = true then (e s1).calm.bind fun x => (fLcL g t e s0 ds).bind fun xs => .ok (x :: xs) else fLcL g t e s0 ds
theorem wp_calm {α : Type} {r : Res α} {xq xq' : XQ} {n : Nat} {Q : α → Nat → Prop} (h : r.calm.wp xq n Q) : r.wp xq' n Q := by
  cases r with
  | ok a => exact h
  | ex x => exact False.elim h
  | bad => exact False.elim h
theorem lc_le {g : FG} {t : FM Bool} {e : FM D} {xq : XQ} {s0 : Ev} {n : Nat} : ∀ (ds acc : List D) (Q : List D → Nat → Prop), (fLcL g t e s0 ds).wp xq n (fun xs n' => Q (acc ++ xs) n') → sLcL (upG g) (up t) (up e) (fun _ _ => False) s0 ds n acc Q
  | [], acc, Q, h => by
    have h : Q (acc ++ []) n := h
    rw [List.append_nil] at h
    exact h
  | d :: ds, acc, Q, h => by
    obtain ⟨s1, e1, h⟩ := wp_ofO (wp_bind h)
    refine ⟨s1, e1, wp_calm (wp_mono (fun c h => ?_) (wp_bind h))⟩
    cases c with
    | false => exact lc_le ds acc Q h
    | true =>
      rw [if_pos rfl] at h ⊢
      refine wp_calm (wp_mono (fun x h => ?_) (wp_bind h))
      refine lc_le ds (acc ++ [x]) Q (wp_mono (fun xs h => ?_) (wp_bind h))
      rw [List.append_assoc]
      exact h
def fLc (i : FM (List D)) (hs : List Nat) (g : FG) (t : FM Bool) (e : FM D) : FM D := fun s => (i s).bind fun ds => if ds.length ≤ LIM then (fLcL g t e (hideL s hs) ds).calm.bind fun xs => .ok (.lst xs) else .bad
theorem le_lc {i : FM (List D)} {hs : List Nat} {g : FG} {t : FM Bool} {e : FM D} : ∀ xq s n Q, up (fLc i hs g t e) xq s n Q → eLc (up i) hs (upG g) (up t) (up e) xq s n Q := fun xq s n Q h => by
  unfold eLc up
  refine wp_mono (fun ds h => ?_) (wp_bind h)
  obtain ⟨e, h⟩ := wp_dec h
  exact ⟨e, lc_le (xq := xq) ds [] _ (wp_calm (wp_bind h))⟩
def fDcL (g : FG) (t : FM Bool) (k e : FM D) (s0 : Ev) : List D → List (Key × D) → Res (List (Key × D))
  | [], acc => .ok acc
  | d :: ds, acc => (ofO (g d s0)).bind fun s1 => (t s1).calm.bind fun c => if c = true then (k s1).calm.bind fun kd => (e s1).calm.bind fun x => (ofO (keyD kd)).bind fun kk => fDcL g t k e s0 ds (putD acc kk x) else fDcL g t k e s0 ds acc
theorem dc_le {g : FG} {t : FM Bool} {k e : FM D} {xq : XQ} {s0 : Ev} {n : Nat} : ∀ (ds : List D) (acc : List (Key × D)) (Q : List (Key × D) → Nat → Prop), (fDcL g t k e s0 ds acc).wp xq n Q → sDcL (upG g) (up t) (up k) (up e) (fun _ _ => False) s0 ds n acc Q
  | [], acc, Q, h => h
  | d :: ds, acc, Q, h => by
    obtain ⟨s1, e1, h⟩ := wp_ofO (wp_bind h)
    refine ⟨s1, e1, wp_calm (wp_mono (fun c h => ?_) (wp_bind h))⟩
    cases c with
    | false => exact dc_le ds acc Q h
    | true =>
      rw [if_pos rfl] at h ⊢
      refine wp_calm (wp_mono (fun kd h => ?_) (wp_bind h))
      refine wp_calm (wp_mono (fun x h => ?_) (wp_bind h))
      obtain ⟨kk, e2, h⟩ := wp_ofO (wp_bind h)
      exact ⟨kk, e2, dc_le ds _ Q h⟩
def fDc (i : FM (List D)) (hs : List Nat) (g : FG) (t : FM Bool) (k e : FM D) : FM D := fun s => (i s).bind fun ds => if ds.length ≤ LIM then (fDcL g t k e (hideL s hs) ds []).calm.bind fun xs => .ok (.dic xs) else .bad
theorem le_dc {i : FM (List D)} {hs : List Nat} {g : FG} {t : FM Bool} {k e : FM D} : ∀ xq s n Q, up (fDc i hs g t k e) xq s n Q → eDc (up i) hs (upG g) (up t) (up k) (up e) xq s n Q := fun xq s n Q h => by
  unfold eDc up
  refine wp_mono (fun ds h => ?_) (wp_bind h)
  obtain ⟨e, h⟩ := wp_dec h
  exact ⟨e, dc_le (xq := xq) ds [] _ (wp_calm (wp_bind h))⟩
/-- a dict by a path -/
def asDic : Option D → Res (List (Key × D))
  | some (.dic kvs) => .ok kvs
  | _ => .bad
def fDcD (p : Ev → Option D) (f : List (Key × D) → List D) (hs : List Nat) (g : FG) (t : FM Bool) (k e : FM D) : FM D := fun s => (asDic (p s)).bind fun kvs => if (f kvs).length ≤ LIM then (fDcL g t k e (hideL s hs) (f kvs) []).calm.bind fun xs => .ok (.dic xs) else .bad
end DL
namespace DL
open PySem PySem.Spec PyProof.Rows L2
variable [TabC]
/-! ### statements that are plain functions -/
inductive SO where
  | nx (s : Ev) | rt (d : D) | bk (s : Ev) | ct (s : Ev) | ex (x : XD) | bad
abbrev FS := Ev → SO
def SO.wp (o : SO) (xq : XQ) (de : DE) (n : Nat) : Prop := match o with
  | .nx s => de.nx s n
  | .rt d => de.rt d n
  | .bk s => de.bk s n
  | .ct s => de.ct s n
  | .ex x => xq x n
  | .bad => False
def upS (f : FS) : SM := fun xq de s n => (f s).wp xq de n
/-- an expression, then a statement's end -/
def Res.so {α : Type} (r : Res α) (k : α → SO) : SO := match r with
  | .ok a => k a
  | .ex x => .ex x
  | .bad => .bad
theorem wp_so {α : Type} {r : Res α} {k : α → SO} {xq : XQ} {de : DE} {n : Nat} (h : (r.so k).wp xq de n) : r.wp xq n fun a n' => (k a).wp xq de n' := by
  cases r <;> exact h
theorem so_dec {p : Prop} [Decidable p] {o : SO} {xq : XQ} {de : DE} {n : Nat} (h : (if p then o else .bad).wp xq de n) : p ∧ o.wp xq de n := by
  by_cases z : p
  · rw [if_pos z] at h
    exact ⟨z, h⟩
  · rw [if_neg z] at h
    exact h.elim
section
variable {X : Cx} {E : XK} {O O' OL : List Nat}
theorem loS {st : Stmt} {m : SM} {f : FS} (h : VS X E O O' OL st m) (le : ∀ xq de s n, upS f xq de s n → m xq de s n) : VS X E O O' OL st (upS f) := by
  obtain ⟨t, p, q⟩ := h
  exact ⟨t, p, fun aS A0 H0 σ H s n xq de De S L k hm => q aS A0 H0 σ H s n xq de De S L k (le _ _ _ _ hm)⟩
theorem loSs {st : List Stmt} {m : SM} {f : FS} (h : VSs X E O O' OL st m) (le : ∀ xq de s n, upS f xq de s n → m xq de s n) : VSs X E O O' OL st (upS f) := by
  obtain ⟨t, p, q⟩ := h
  exact ⟨t, p, fun aS A0 H0 σ H s n xq de De S L k hm => q aS A0 H0 σ H s n xq de De S L k (le _ _ _ _ hm)⟩
theorem loSF {st : List Stmt} {m : SM} {f : FS} (h : VSsF X E O st m) (le : ∀ xq de s n, upS f xq de s n → m xq de s n) : VSsF X E O st (upS f) := by
  obtain ⟨t, p, q⟩ := h
  exact ⟨t, p, fun aS A0 H0 σ H s n xq de De S L k hm => q aS A0 H0 σ H s n xq de De S L k (le _ _ _ _ hm)⟩
end
section
variable {a b : FM D} {t : FM Bool} {l : FM (List D)} {f g : FS}
def fNilS : FS := fun s => .nx s
theorem ls_nil : ∀ xq de s n, upS fNilS xq de s n → sNil xq de s n := fun _ _ _ _ h => h
def fSeq (f g : FS) : FS := fun s => match f s with
  | .nx s' => g s'
  | o => o
theorem ls_seq : ∀ xq de s n, upS (fSeq f g) xq de s n → sSeq (upS f) (upS g) xq de s n := fun xq de s n h => by
  unfold upS fSeq at h
  unfold sSeq upS
  cases e : f s <;> rw [e] at h <;> exact h
def fSeqF (f g : FS) : FS := fun s => match f s with
  | .nx s' => g s'
  | .ex x => .ex x
  | _ => .bad
def fRet (a : FM D) : FS := fun s => (a s).so .rt
theorem ls_ret : ∀ xq de s n, upS (fRet a) xq de s n → sRet (up a) xq de s n := fun xq de s n h => by
  unfold sRet up
  exact wp_so h
def fSet (i : Nat) (a : FM D) : FS := fun s => (a s).so fun d => .nx (s.set i (some d))
theorem ls_set {i : Nat} : ∀ xq de s n, upS (fSet i a) xq de s n → sSet i (up a) xq de s n := fun xq de s n h => by
  unfold sSet up
  exact wp_so h
def fSetF (i : Nat) (a : FM D) : FS := fun s => if i < s.length then (a s).so fun d => .nx (s.set i (some d)) else .bad
theorem ls_setF {i : Nat} : ∀ xq de s n, upS (fSetF i a) xq de s n → sSetF i (up a) xq de s n := fun xq de s n h => by
  obtain ⟨e, h⟩ := so_dec h
  exact ⟨e, wp_so h⟩
def fIfS (t : FM Bool) (f g : FS) : FS := fun s => (t s).so fun c => if c = true then f s else g s
theorem ls_if : ∀ xq de s n, upS (fIfS t f g) xq de s n → sIf (up t) (upS f) (upS g) xq de s n := fun xq de s n h => by
  unfold sIf up
  refine wp_mono (fun c h => ?_) (wp_so h)
  cases c <;> exact h
def fDrop (a : FM D) : FS := fun s => (a s).so fun _ => .nx s
theorem ls_drop : ∀ xq de s n, upS (fDrop a) xq de s n → sDrop (up a) xq de s n := fun xq de s n h => by
  unfold sDrop up
  exact wp_so h
/-- a list in a slot -/
def lstAt (s : Ev) (i : Nat) (k : List D → SO) : SO := match s[i]? with
  | some (some (.lst ds)) => k ds
  | _ => .bad
theorem wp_lstAt {s : Ev} {i : Nat} {k : List D → SO} {xq : XQ} {de : DE} {n : Nat} (h : (lstAt s i k).wp xq de n) : ∃ ds, s[i]? = some (some (.lst ds)) ∧ (k ds).wp xq de n := by
  unfold lstAt at h
  split at h
  · rename_i ds e
    exact ⟨ds, e, h⟩
  · exact h.elim
def fApp (i : Nat) (a : FM D) : FS := fun s => lstAt s i fun ds => (a s).so fun d => if ds.length < LIM then .nx (s.set i (some (.lst (ds ++ [d])))) else .bad
theorem ls_app {i : Nat} : ∀ xq de s n, upS (fApp i a) xq de s n → sApp i (up a) xq de s n := fun xq de s n h => by
  obtain ⟨ds, e, h⟩ := wp_lstAt h
  exact ⟨ds, e, wp_mono (fun d h => so_dec h) (wp_so h)⟩
def asIns : List D → Option (Nat × D)
  | [.int k, d] => if 0 ≤ k then some (k.toNat, d) else none
  | _ => none
theorem asIns_ok {l : List D} {k : Nat} {d : D} (h : asIns l = some (k, d)) : l = [.int k, d] := by
  unfold asIns at h
  split at h
  · split at h
    · cases h
      rename_i k d hk
      rw [Int.toNat_of_nonneg hk]
    · cases h
  · cases h
def fIns (i : Nat) (l : FM (List D)) : FS := fun s => lstAt s i fun ds => (l s).so fun x => (ofO (asIns x)).so fun p => if ds.length < LIM ∧ p.1 ≤ LIM then .nx (s.set i (some (.lst (ds.take p.1 ++ [p.2] ++ ds.drop p.1)))) else .bad
theorem ls_ins {i : Nat} : ∀ xq de s n, upS (fIns i l) xq de s n → sIns i (up l) xq de s n := fun xq de s n h => by
  obtain ⟨ds, e, h⟩ := wp_lstAt h
  refine ⟨ds, e, wp_mono (fun x h => ?_) (wp_so h)⟩
  obtain ⟨⟨k, d⟩, e2, h⟩ := wp_ofO (wp_so h)
  obtain ⟨e3, h⟩ := so_dec h
  exact ⟨k, d, asIns_ok e2, e3.1, e3.2, h⟩
def fFldS (i : Nat) (C g : Str) (a : FM D) : FS := fun s => (a s).so fun d => match s[i]? with
  | some (some (.obj C' fs)) => if C' = C ∧ fs.length < 1000 then .nx (s.set i (some (.obj C (putFD g d fs)))) else .bad
  | _ => .bad
theorem ls_fld {i : Nat} {C g : Str} : ∀ xq de s n, upS (fFldS i C g a) xq de s n → sFldD i C g (up a) xq de s n := fun xq de s n h => by
  unfold sFldD up
  refine wp_mono (fun d h => ?_) (wp_so h)
  split at h
  · rename_i C' fs e
    obtain ⟨e2, h⟩ := so_dec h
    exact ⟨fs, by rw [e, e2.1], e2.2, h⟩
  · exact h.elim
def fPar (i j : Nat) (a b : FM D) : FS := fun s => (a s).so fun d => (b s).so fun d' => .nx ((s.set i (some d)).set j (some d'))
theorem ls_par {i j : Nat} : ∀ xq de s n, upS (fPar i j a b) xq de s n → sPar i j (up a) (up b) xq de s n := fun xq de s n h => by
  unfold sPar up
  exact wp_mono (fun d h => wp_so h) (wp_so h)
def fParFF (i j : Nat) (a b : FM D) : FS := fun s => if i < s.length ∧ j < s.length then (a s).calm.so fun d => (b s).calm.so fun d' => .nx ((s.set i (some d)).set j (some d')) else .bad
theorem ls_parFF {i j : Nat} : ∀ xq de s n, upS (fParFF i j a b) xq de s n → sParFF i j (up a) (up b) xq de s n := fun xq de s n h => by
  obtain ⟨e, h⟩ := so_dec h
  refine ⟨e.1, e.2, ?_⟩
  unfold sPar up
  exact wp_calm (wp_mono (fun d h => wp_calm (wp_so h)) (wp_so h))
def fRaise (C : Str) (fl : List Str) (l : FM (List D)) : FS := fun s => (l s).so fun ds => if ds.length = fl.length then .ex (C, ES.fsOf fl ds) else .bad
theorem ls_raise {C : Str} {fl : List Str} : ∀ xq de s n, upS (fRaise C fl l) xq de s n → sRaise C fl (up l) xq de s n := fun xq de s n h => by
  unfold sRaise up
  exact wp_mono (fun ds h => so_dec h) (wp_so h)
/-! loops -/
def fForL (g : FG) (b : FS) : List D → FS
  | [], s => .nx s
  | d :: ds, s => (ofO (g d s)).so fun s1 => match b s1 with
    | .nx s2 => fForL g b ds s2
    | .ct s2 => fForL g b ds s2
    | .bk s2 => .nx s2
    | o => o
theorem for_le {g : FG} {b : FS} {xq : XQ} {de : DE} {n : Nat} : ∀ (ds : List D) (s : Ev), (fForL g b ds s).wp xq de n → sForL (upG g) (upS b) xq de ds s n
  | [], s, h => h
  | d :: ds, s, h => by
    obtain ⟨s1, e1, h⟩ := wp_ofO (wp_so h)
    refine ⟨s1, e1, ?_⟩
    change (b s1).wp xq { de with nx := fun s2 n2 => sForL (upG g) (upS b) xq de ds s2 n2, ct := fun s2 n2 => sForL (upG g) (upS b) xq de ds s2 n2, bk := de.nx } n
    cases e : b s1 <;> rw [e] at h
    · exact for_le ds _ h
    · exact h
    · exact h
    · exact for_le ds _ h
    · exact h
    · exact h
def fFor (i : FM (List D)) (g : FG) (b : FS) : FS := fun s => (i s).so fun ds => fForL g b ds s
theorem ls_for {i : FM (List D)} {g : FG} {b : FS} : ∀ xq de s n, upS (fFor i g b) xq de s n → sFor (up i) (upG g) (upS b) xq de s n := fun xq de s n h => by
  unfold sFor up
  exact wp_mono (fun ds h => for_le ds s h) (wp_so h)
def fForD (p : Ev → Option D) (k : List (Key × D) → List D) (g : FG) (b : FS) : FS := fun s => (asDic (p s)).so fun kvs => fForL g b (k kvs) s
def fWhileN (t : FM Bool) (b : FS) : Nat → FS
  | 0, _ => .bad
  | k + 1, s => (t s).so fun c => if c = true then (match b s with
    | .nx s2 => fWhileN t b k s2
    | .ct s2 => fWhileN t b k s2
    | .bk s2 => .nx s2
    | o => o) else .nx s
theorem while_le {t : FM Bool} {b : FS} {xq : XQ} {de : DE} {n : Nat} : ∀ (k : Nat) (s : Ev), (fWhileN t b k s).wp xq de n → sWhileN (up t) (upS b) xq de k s n
  | 0, s, h => h
  | k + 1, s, h => by
    unfold sWhileN up
    refine wp_mono (fun c h => ?_) (wp_so h)
    cases c with
    | false => exact h
    | true =>
      rw [if_pos rfl] at h ⊢
      change (b s).wp xq { de with nx := fun s2 n2 => sWhileN (up t) (upS b) xq de k s2 n2, ct := fun s2 n2 => sWhileN (up t) (upS b) xq de k s2 n2, bk := de.nx } n
      cases e : b s <;> rw [e] at h
      · exact while_le k _ h
      · exact h
      · exact h
      · exact while_le k _ h
      · exact h
      · exact h
def FUEL : Nat := 1000000
def fWhile (t : FM Bool) (b : FS) : FS := fWhileN t b FUEL
theorem ls_while {t : FM Bool} {b : FS} : ∀ xq de s n, upS (fWhile t b) xq de s n → sWhile (up t) (upS b) xq de s n := fun xq de s n h => ⟨FUEL, while_le _ _ h⟩
end
/-! ### defs -/
def runB (N : List Str) (b : FS) : FFn := fun ds => match b (startD N ds) with
  | .nx _ => .ok .non
  | .rt d => .ok d
  | .ex x => .ex x
  | _ => .bad
/-- the object that slot 0 holds -/
def objAt (C : Str) (s : Ev) : Res D := match s[0]? with
  | some (some (D.obj C' fs)) => if C' = C then .ok (.obj C fs) else .bad
  | _ => .bad
theorem wp_objAt {C : Str} {s : Ev} {xq : XQ} {n : Nat} {Q : D → Nat → Prop} (h : (objAt C s).wp xq n Q) : ∃ fs, s[0]? = some (some (.obj C fs)) ∧ Q (.obj C fs) n := by
  unfold objAt at h
  split at h
  · rename_i C' fs e2
    obtain ⟨e3, h⟩ := wp_dec h
    exact ⟨fs, by rw [e2, e3], h⟩
  · exact h.elim
def runI (C : Str) (N : List Str) (b : FS) : FFn := fun ds => match b (startD N (.obj C [] :: ds)) with
  | .nx s => objAt C s
  | .ex x => .ex x
  | _ => .bad
theorem meets {len : Nat} {N : List Str} {b : FS} : Meets len N (FSp.of (runB N b)) (upS b) := fun ds n Q xq hl h => by
  have h : (runB N b ds).wp xq n Q := h
  unfold runB at h
  unfold upS
  cases e : b (startD N ds) <;> rw [e] at h <;> first | exact h | exact h.elim
theorem meetsI {C : Str} {len : Nat} {N : List Str} {b : FS} : MeetsI C len N (FSp.of (runI C N b)) (upS b) := fun ds n Q xq hl h => by
  have h : (runI C N b ds).wp xq n Q := h
  unfold runI at h
  unfold upS
  cases e : b (startD N (.obj C [] :: ds)) <;> rw [e] at h <;> first | exact wp_objAt h | exact h | exact h.elim
/-- what runI makes is an object of the class -/
theorem runI_obj {C : Str} {N : List Str} {b : FS} {ds : List D} {n : Nat} {Q : D → Nat → Prop} {xq : XQ} (h : (FSp.of (runI C N b)).run ds n Q xq) : (FSp.of (runI C N b)).run ds n (fun d n' => (∃ fs, d = .obj C fs) ∧ Q d n') xq := by
  have h : (runI C N b ds).wp xq n Q := h
  show (runI C N b ds).wp xq n fun d n' => (∃ fs, d = .obj C fs) ∧ Q d n'
  unfold runI at h ⊢
  cases e : b (startD N (.obj C [] :: ds)) <;> rw [e] at h <;> first | exact h | exact h.elim | skip
  obtain ⟨fs, e2, q⟩ := wp_objAt h
  show (objAt C _).wp xq n _
  unfold objAt
  rw [e2]
  show (if C = C then Res.ok (D.obj C fs) else .bad).wp xq n _
  rw [if_pos rfl]
  exact ⟨⟨fs, rfl⟩, q⟩
end DL
namespace DL
open PySem PySem.Spec PyProof.Rows L2
variable [TabC]
section
variable {X : Cx} {E : XK} {O : List Nat} {a b c o : FM D} {l : FM (List D)}
theorem ls_retV {i : Nat} : ∀ xq de s n, upS (fRet (fVar i)) xq de s n → sRet (eVar i) xq de s n := fun xq de s n h => le_var i _ _ _ _ (ls_ret _ _ _ _ h)
theorem loW {e : Expr} {m : EM Bool} {f : FM Bool} (h : VW X E O e m) (le : ∀ xq s n Q, up f xq s n Q → m xq s n Q) : VW X E O e (up f) := by
  obtain ⟨mn, t, p, q⟩ := h
  exact ⟨mn_up, t, p, fun aS A0 H0 σ H s n xq Q S L hm => q aS A0 H0 σ H s n xq Q S L (le _ _ _ _ hm)⟩
end
end DL
namespace DL
open PySem PySem.Spec PyProof.Rows L2
/-! `{**d, k: v}` and `{**d, **e}` -/
section
variable {P : Program} {w : World} {A : Around} {E : Value → Shared → Prop} {s : Shared}
section
variable {M : Model} {Γ : PySem.Ctx} {a : Addr} {f : Array DictEntry → Array DictEntry} {pt : Option Value} {Q : Unit → Pos → Shared → Prop} {X : Value → Pos → Shared → Prop} {p : Pos}
end
end
section
variable {X : Cx} {m e : Expr} {k v : Expr} {tm te tk tv : TE} {pos : Pos}
end
end DL
namespace DL
open PySem PySem.Spec PyProof.Rows L2
variable [TabC]
section
variable {K : PySem.W.Frag} {aS p : Addr} {H H' H0 : Hp} {A : AS} {A0 A1 : A0T} {O : List Nat} {σ : L2.St} {s : Ev} {n n' : Nat}
end
section
variable {X : Cx} {E : XK} {O : List Nat} {m e k v : Expr} {mm me mk mv : EM D} {pos : Pos}
end
end DL
namespace DL
open PySem PySem.Spec PyProof.Rows L2
variable [TabC]
/-! `{k: v, ..}` -/
section
variable {X : Cx} {E : XK} {O : List Nat} {k v : Expr} {ks : List (Option Expr)} {vs : List Expr} {mk mv : EM D} {mp : EM (List (D × D))} {pos : Pos}
end
end DL
namespace DL
open PySem PySem.Spec PyProof.Rows L2
variable [TabC]
/-! o[k] by an own __getitem__ -/
section
variable {X : Cx} {CX : CXT} {C f : Addr} {fd : FuncData} {ps : List Str} {sp : Sp} {E : XK} {k : Nat} {o e : Expr} {to te : TE} {pos : Pos}
end
section
variable {X : Cx} {E : XK} {O : List Nat} {e o : Expr} {mo me : EM D} {pos : Pos} {C : Str} {ps : List Str} {k k' : Nat} {sp : FSp}
end
end DL
namespace DL
open PySem PySem.Spec PyProof.Rows L2
/-! set(d) of a dict -/
section
variable {P : Program} {w : World} {A : Around} {E : Value → Shared → Prop} {s : Shared} {K : Type} [DecidableEq K] {knd : PySem.KeyKind P w K}
end
end DL
namespace DL
open PySem PySem.Spec PyProof.Rows L2
section
variable {P : Program} {w : World} {A : Around} {E : Value → Shared → Prop} {s : Shared} {K : Type} [DecidableEq K] {knd : PySem.KeyKind P w K}
end
end DL
namespace DL
open PySem PySem.Spec PyProof.Rows L2
section
variable {P : Program} {w : World} {A : Around} {E : Value → Shared → Prop} {s : Shared} {K : Type} [DecidableEq K] {knd : PySem.KeyKind P w K}
end
end DL
namespace DL
open PySem PySem.Spec PyProof.Rows L2
variable [TabC]
section
variable {X : Cx}
end
section
variable {X : Cx} {E : XK} {O : List Nat} {a b : Expr} {ma mb : EM D} {pos p1 p2 q1 q2 : Pos}
end
end DL
namespace DL
open PySem PySem.Spec PyProof.Rows L2
variable [TabC]
/-! displays of dicts, sets of keys, items of own classes -/
section
variable {X : Cx} {E : XK} {O : List Nat} {a b c o : FM D}
end
end DL
namespace DL
open PySem PySem.Spec PyProof.Rows L2
variable [TabC]
/-! raise X() -/
section
variable {X : Cx} {E : XK} {O O' OL : List Nat} {pos p rpos : Pos} {x : Str}
end
end DL
namespace DL
open PySem PySem.Spec PyProof.Rows L2
variable [TabC]
/-! three targets -/
def sPar3 (i j l : Nat) (ma mb mc : EM D) : SM := fun xq de s n => ma xq s n fun d n1 => mb xq s n1 fun d' n2 => mc xq s n2 fun d'' n3 => de.nx (((s.set i (some d)).set j (some d')).set l (some d'')) n3
section
variable {X : Cx} {E : XK} {O OL : List Nat} {a b c : Expr} {ma mb mc : EM D} {pos : Pos} {i j l : Nat} {x y z : Str}
end
end DL
namespace DL
open PySem PySem.Spec PyProof.Rows L2
variable [TabC]
/-! ### plain steps -/
abbrev sOk (x : Str) : Prop := PyData.strOk x = true
theorem okD_str {x : Str} (h : sOk x) : okD (.str x) = true := by
  unfold okD SeqAt.shaped
  simp only [toPD, PyData.canLay0, PyData.depth]
  rw [h]
  rfl
theorem okD_int (i : Int) : okD (.int i) = true := by
  unfold okD SeqAt.shaped
  simp only [toPD, PyData.canLay0, PyData.depth]
  rfl
theorem pyEq_str (x y : Str) : pyEq (.str x) (.str y) = (x == y) := by
  unfold pyEq
  simp only [toPD, PyData.eqv]
theorem pyEq_int (x y : Int) : pyEq (.int x) (.int y) = (x == y) := by
  unfold pyEq
  simp only [toPD, PyData.eqv]
theorem dEq_str {x y : Str} (hx : sOk x) (hy : sOk y) : dEq (.str x) (.str y) = some (.bl (x == y)) := by
  unfold dEq
  rw [okD_str hx, okD_str hy, pyEq_str]
  rfl
theorem dNe_str {x y : Str} (hx : sOk x) (hy : sOk y) : dNe (.str x) (.str y) = some (.bl (!(x == y))) := by
  unfold dNe
  rw [okD_str hx, okD_str hy, pyEq_str]
  rfl
theorem dEq_int {x y : Int} : dEq (.int x) (.int y) = some (.bl (x == y)) := by
  unfold dEq
  rw [okD_int, okD_int, pyEq_int]
  rfl
theorem lay_all : ∀ xs : List D, (∀ x ∈ xs, (toPD x).canLay0 = true) → PyData.canLayAll0 (toPDs xs) = true
  | [], _ => by simp only [toPDs, PyData.canLayAll0]
  | x :: xs, h => by
    simp only [toPDs, PyData.canLayAll0, Bool.and_eq_true]
    exact ⟨h x List.mem_cons_self, lay_all xs fun y hy => h y (List.mem_cons_of_mem _ hy)⟩
theorem depth_all {k : Nat} : ∀ xs : List D, (∀ x ∈ xs, (toPD x).depth ≤ k) → PyData.depthAll (toPDs xs) ≤ k
  | [], _ => by simp only [toPDs, PyData.depthAll]; omega
  | x :: xs, h => by
    simp only [toPDs, PyData.depthAll]
    have h1 := h x List.mem_cons_self
    have h2 := depth_all xs fun y hy => h y (List.mem_cons_of_mem _ hy)
    omega
/-- what can be compared, so deep -/
structure OkN (k : Nat) (d : D) : Prop where
  lay : (toPD d).canLay0 = true
  dep : (toPD d).depth ≤ k
theorem OkN.ok {k : Nat} {d : D} (h : OkN k d) (hk : k ≤ 64) : okD d = true := by
  unfold okD SeqAt.shaped
  rw [h.lay, decide_eq_true (by have := h.dep; omega)]
  rfl
theorem OkN.str {k : Nat} {x : Str} (h : sOk x) : OkN k (.str x) := ⟨by simp only [toPD, PyData.canLay0]; exact h, by simp only [toPD, PyData.depth]; omega⟩
theorem OkN.lst {k : Nat} {xs : List D} (h : ∀ x ∈ xs, OkN k x) : OkN (k + 1) (.lst xs) := ⟨by simp only [toPD, PyData.canLay0]; exact lay_all xs fun x hx => (h x hx).lay, by
  simp only [toPD, PyData.depth]
  exact Nat.succ_le_succ (depth_all xs fun x hx => (h x hx).dep)⟩
theorem dEq_ok {a b : D} (ha : okD a = true) (hb : okD b = true) : dEq a b = some (.bl (pyEq a b)) := by
  unfold dEq
  rw [ha, hb]
  rfl
theorem dNe_ok {a b : D} (ha : okD a = true) (hb : okD b = true) : dNe a b = some (.bl (!pyEq a b)) := by
  unfold dNe
  rw [ha, hb]
  rfl
theorem ok_strs {xs : List Str} (h : ∀ x ∈ xs, sOk x) : okD (.lst (xs.map .str)) = true := (OkN.lst (k := 0) fun d hd => by
  obtain ⟨x, hx, rfl⟩ := List.mem_map.mp hd
  exact .str (h x hx)).ok (by decide)
theorem any_strs {x : Str} : ∀ (xs : List Str), ((xs.map D.str).any fun y => pyEq y (.str x)) = decide (x ∈ xs)
  | [] => rfl
  | y :: ys => by
    rw [List.map_cons, List.any_cons, any_strs ys, pyEq_str]
    by_cases e : y = x
    · subst e; simp
    · have e2 : ¬ x = y := fun z => e z.symm
      simp [e, e2]
theorem dInB_strs {x : Str} {xs : List Str} (hx : sOk x) (h : ∀ x ∈ xs, sOk x) : dInB (.str x) (.lst (xs.map .str)) = some (decide (x ∈ xs)) := by
  show (if (okD (.str x) && okD (.lst (xs.map .str))) = true then some ((xs.map D.str).any fun y => pyEq y (.str x)) else none) = _
  rw [okD_str hx, ok_strs h, any_strs]
  rfl
theorem dIn_strs {x : Str} {xs : List Str} (hx : sOk x) (h : ∀ x ∈ xs, sOk x) : dIn (.str x) (.lst (xs.map .str)) = some (.bl (decide (x ∈ xs))) := by
  unfold dIn
  rw [dInB_strs hx h]
  rfl
theorem dNotIn_strs {x : Str} {xs : List Str} (hx : sOk x) (h : ∀ x ∈ xs, sOk x) : dNotIn (.str x) (.lst (xs.map .str)) = some (.bl (!decide (x ∈ xs))) := by
  unfold dNotIn
  rw [dInB_strs hx h]
  rfl
/-! lists, by places -/
theorem dIdx_lst {xs : List D} {k : Nat} : dIdx (.lst xs) (.int (k : Int)) = xs[k]? := atI_nat xs k
/-! dicts of texts, typed: a list of pairs and a function to data -/
def mapD {α : Type} (f : α → D) (l : List (Str × α)) : List (Key × D) := l.map fun p => (.inr p.1, f p.2)
theorem lookK_map {α : Type} (f : α → D) (x : Str) : ∀ l : List (Str × α), lookK (mapD f l) (.inr x) = (l.lookup x).map f
  | [] => rfl
  | (y, a) :: l => by
    have ih := lookK_map f x l
    unfold lookK mapD at ih ⊢
    rw [List.map_cons, List.find?_cons, List.lookup_cons]
    by_cases e : x = y
    · subst e
      simp
    · have e1 : ¬ (Sum.inr y : Key) = Sum.inr x := fun z => e (Sum.inr.inj z).symm
      have e2 : (x == y) = false := by simpa using e
      rw [e2]
      simp only [e1, decide_false]
      exact ih
theorem items_map {α : Type} (f : α → D) (l : List (Str × α)) : itemsD (mapD f l) = l.map fun p => .tup [.str p.1, f p.2] := by
  unfold itemsD mapD
  rw [List.map_map]
  rfl
theorem look_some {α : Type} {x : Str} {a : α} : ∀ {l : List (Str × α)}, l.lookup x = some a → (x, a) ∈ l
  | (y, b) :: l, h => by
    rw [List.lookup_cons] at h
    by_cases e : x = y
    · subst e
      simp at h
      subst h
      exact List.mem_cons_self
    · have e2 : (x == y) = false := by simpa using e
      rw [e2] at h
      exact List.mem_cons_of_mem _ (look_some h)
theorem look_of {α : Type} {x : Str} {a : α} : ∀ {l : List (Str × α)}, (l.map (·.1)).Nodup → (x, a) ∈ l → l.lookup x = some a
  | (y, b) :: l, hn, h => by
    rw [List.map_cons, List.nodup_cons] at hn
    rw [List.lookup_cons]
    rcases List.mem_cons.mp h with e | hm
    · cases e
      simp
    · have e : x ≠ y := fun z => hn.1 (by subst z; exact List.mem_map.mpr ⟨(x, a), hm, rfl⟩)
      have e2 : (x == y) = false := by simpa using e
      rw [e2]
      exact look_of hn.2 hm
theorem look_none {α : Type} {x : Str} : ∀ {l : List (Str × α)}, x ∉ l.map (·.1) → l.lookup x = none
  | [], _ => rfl
  | (y, b) :: l, h => by
    rw [List.map_cons, List.mem_cons, not_or] at h
    rw [List.lookup_cons]
    have e2 : (x == y) = false := by simpa using h.1
    rw [e2]
    exact look_none h.2
theorem look_mem {α : Type} {x : Str} {l : List (Str × α)} (h : x ∈ l.map (·.1)) : ∃ a, l.lookup x = some a := by
  induction l with
  | nil => cases h
  | cons p l ih =>
    obtain ⟨y, b⟩ := p
    rw [List.lookup_cons]
    by_cases e : x = y
    · subst e
      exact ⟨b, by simp⟩
    · have e2 : (x == y) = false := by simpa using e
      rw [e2]
      rcases List.mem_cons.mp h with z | z
      · exact absurd z e
      · exact ih z
theorem put_new {α : Type} {f : α → D} {l : List (Str × α)} {x : Str} {a : α} (h : x ∉ l.map (·.1)) : putD (mapD f l) (.inr x) (f a) = mapD f (l ++ [(x, a)]) := by
  unfold putD
  rw [lookK_map, look_none h]
  show (mapD f l).concat _ = _
  unfold mapD
  rw [List.concat_eq_append, List.map_append]
  rfl
/-! steps -/
theorem runB_rt {N : List Str} {b : FS} {ds : List D} {d : D} (h : b (startD N ds) = .rt d) : runB N b ds = .ok d := by
  unfold runB
  rw [h]
theorem runB_nx {N : List Str} {b : FS} {ds : List D} {s : Ev} (h : b (startD N ds) = .nx s) : runB N b ds = .ok .non := by
  unfold runB
  rw [h]
theorem runB_ex {N : List Str} {b : FS} {ds : List D} {x : XD} (h : b (startD N ds) = .ex x) : runB N b ds = .ex x := by
  unfold runB
  rw [h]
theorem runI_nx {C : Str} {N : List Str} {b : FS} {ds : List D} {s : Ev} {d : D} (h : b (startD N (.obj C [] :: ds)) = .nx s) (h2 : objAt C s = .ok d) : runI C N b ds = .ok d := by
  unfold runI
  rw [h]
  exact h2
theorem runI_ex {C : Str} {N : List Str} {b : FS} {ds : List D} {x : XD} (h : b (startD N (.obj C [] :: ds)) = .ex x) : runI C N b ds = .ex x := by
  unfold runI
  rw [h]
section
variable {s s' : Ev} {f g : FS} {o : SO} {a b c : FM D} {t u : FM Bool} {l : FM (List D)} {d d' : D}
theorem seqN (h : f s = .nx s') (h2 : g s' = o) : fSeq f g s = o := by
  unfold fSeq
  rw [h]
  exact h2
theorem seqR (h : f s = .rt d) : fSeq f g s = .rt d := by
  unfold fSeq
  rw [h]
theorem seqX {x : XD} (h : f s = .ex x) : fSeq f g s = .ex x := by
  unfold fSeq
  rw [h]
theorem retE (h : a s = .ok d) : fRet a s = .rt d := by
  unfold fRet
  rw [h]
  rfl
theorem setE {i : Nat} (h : a s = .ok d) : fSet i a s = .nx (s.set i (some d)) := by
  unfold fSet
  rw [h]
  rfl
theorem setFE {i : Nat} (hi : i < s.length) (h : a s = .ok d) : fSetF i a s = .nx (s.set i (some d)) := by
  unfold fSetF
  rw [h, if_pos hi]
  rfl
theorem dropE (h : a s = .ok d) : fDrop a s = .nx s := by
  unfold fDrop
  rw [h]
  rfl
theorem ifsT (h : t s = .ok true) (h2 : f s = o) : fIfS t f g s = o := by
  unfold fIfS
  rw [h]
  exact h2
theorem ifsF (h : t s = .ok false) (h2 : g s = o) : fIfS t f g s = o := by
  unfold fIfS
  rw [h]
  exact h2
theorem forE {i : FM (List D)} {g : FG} {ds : List D} (h : i s = .ok ds) (h2 : fForL g f ds s = o) : fFor i g f s = o := by
  unfold fFor
  rw [h]
  exact h2
theorem parE {i j : Nat} (h : a s = .ok d) (h2 : b s = .ok d') : fPar i j a b s = .nx ((s.set i (some d)).set j (some d')) := by
  unfold fPar
  rw [h, h2]
  rfl
theorem parFFE {i j : Nat} (hi : i < s.length) (hj : j < s.length) (h : a s = .ok d) (h2 : b s = .ok d') : fParFF i j a b s = .nx ((s.set i (some d)).set j (some d')) := by
  unfold fParFF
  rw [h, h2, if_pos ⟨hi, hj⟩]
  rfl
theorem appE {i : Nat} {ds : List D} (h : s[i]? = some (some (.lst ds))) (h2 : a s = .ok d) (hl : ds.length < LIM) : fApp i a s = .nx (s.set i (some (.lst (ds ++ [d])))) := by
  unfold fApp lstAt
  rw [h]
  show (a s).so _ = _
  rw [h2]
  show (if ds.length < LIM then _ else _) = _
  rw [if_pos hl]
theorem insE {i k : Nat} {ds : List D} (h : s[i]? = some (some (.lst ds))) (h2 : l s = .ok [.int k, d]) (hl : ds.length < LIM) (hk : k ≤ LIM) : fIns i l s = .nx (s.set i (some (.lst (ds.take k ++ [d] ++ ds.drop k)))) := by
  unfold fIns lstAt
  rw [h]
  show (l s).so _ = _
  rw [h2]
  have e : asIns [.int (k : Int), d] = some (k, d) := by simp [asIns]
  simp only [Res.so, e, ofO]
  rw [if_pos ⟨hl, hk⟩]
theorem fldSE {i : Nat} {C g : Str} {fs : List (Str × D)} (h : a s = .ok d) (h2 : s[i]? = some (some (.obj C fs))) (hl : fs.length < 1000) : fFldS i C g a s = .nx (s.set i (some (.obj C (putFD g d fs)))) := by
  unfold fFldS
  rw [h]
  show (match s[i]? with | some (some (.obj C' fs)) => _ | _ => _) = _
  rw [h2]
  show (if C = C ∧ fs.length < 1000 then _ else _) = _
  rw [if_pos ⟨rfl, hl⟩]
/-! expressions -/
theorem binE {f : D → D → Option D} {x y : D} (h : a s = .ok x) (h2 : b s = .ok y) (h3 : f x y = some d) : fBin f a b s = .ok d := by
  unfold fBin
  rw [h, h2]
  show ofO (f x y) = _
  rw [h3]
  rfl
theorem binTE {f : D → D → Option D} {x y : D} {k : Bool} (h : a s = .ok x) (h2 : b s = .ok y) (h3 : f x y = some (.bl k)) : fBinT f a b s = .ok k := by
  unfold fBinT
  rw [h, h2]
  show ofB (f x y) = _
  rw [h3]
  rfl
theorem bltE {f : List D → Option D} {xs : List D} (h : l s = .ok xs) (h3 : f xs = some d) : fBlt f l s = .ok d := by
  unfold fBlt
  rw [h]
  show ofO (f xs) = _
  rw [h3]
  rfl
theorem consE {ds : List D} (h : a s = .ok d) (h2 : l s = .ok ds) : fCons a l s = .ok (d :: ds) := by
  unfold fCons
  rw [h, h2]
  rfl
theorem tupE {ds : List D} (h : l s = .ok ds) (hl : ds.length ≤ 1000) : fTup l s = .ok (.tup ds) := by
  unfold fTup
  rw [h]
  show (if ds.length ≤ 1000 then _ else _) = _
  rw [if_pos hl]
theorem lstE {ds : List D} (h : l s = .ok ds) (hl : ds.length ≤ 1000) : fLst l s = .ok (.lst ds) := by
  unfold fLst
  rw [h]
  show (if ds.length ≤ 1000 then _ else _) = _
  rw [if_pos hl]
theorem valE {k : Bool} (h : a s = .ok (.bl k)) : fVal a s = .ok k := by
  unfold fVal
  rw [h]
  rfl
theorem notTE {k : Bool} (h : t s = .ok k) : fNotT t s = .ok (!k) := by
  unfold fNotT
  rw [h]
  rfl
theorem andT {r : Res D} (h : a s = .ok (.bl true)) (h2 : b s = r) : fAnd a b s = r := by
  unfold fAnd
  rw [h]
  exact h2
theorem andF (h : a s = .ok (.bl false)) : fAnd a b s = .ok (.bl false) := by
  unfold fAnd
  rw [h]
  rfl
theorem orT (h : a s = .ok (.bl true)) : fOr a b s = .ok (.bl true) := by
  unfold fOr
  rw [h]
  rfl
theorem orF {r : Res D} (h : a s = .ok (.bl false)) (h2 : b s = r) : fOr a b s = r := by
  unfold fOr
  rw [h]
  exact h2
theorem andTT {r : Res Bool} (h : t s = .ok true) (h2 : u s = r) : fAndT t u s = r := by
  unfold fAndT
  rw [h]
  exact h2
theorem andTF (h : t s = .ok false) : fAndT t u s = .ok false := by
  unfold fAndT
  rw [h]
  rfl
theorem orTT (h : t s = .ok true) : fOrT t u s = .ok true := by
  unfold fOrT
  rw [h]
  rfl
theorem orTF {r : Res Bool} (h : t s = .ok false) (h2 : u s = r) : fOrT t u s = r := by
  unfold fOrT
  rw [h]
  exact h2
theorem callE {len : Nat} {f : FFn} {dds ds : List D} {r : Res D} (h : l s = .ok ds) (hl : (ds ++ dds).length = len) (h2 : f (ds ++ dds) = r) : fCall len f dds l s = r := by
  unfold fCall
  rw [h]
  show (if (ds ++ dds).length = len then _ else _) = _
  rw [if_pos hl]
  exact h2
theorem lcE {i : FM (List D)} {hs : List Nat} {g : FG} {ds xs : List D} (h : i s = .ok ds) (hl : ds.length ≤ LIM) (h2 : fLcL g t a (hideL s hs) ds = .ok xs) : fLc i hs g t a s = .ok (.lst xs) := by
  unfold fLc
  rw [h]
  show (if ds.length ≤ LIM then _ else _) = _
  rw [if_pos hl, h2]
  rfl
theorem dcE {i : FM (List D)} {hs : List Nat} {g : FG} {ds : List D} {xs : List (Key × D)} (h : i s = .ok ds) (hl : ds.length ≤ LIM) (h2 : fDcL g t a b (hideL s hs) ds [] = .ok xs) : fDc i hs g t a b s = .ok (.dic xs) := by
  unfold fDc
  rw [h]
  show (if ds.length ≤ LIM then _ else _) = _
  rw [if_pos hl, h2]
  rfl
theorem dgetE {kvs : List (Key × D)} {kk : Key} {kd : D} (h : a s = .ok (.dic kvs)) (h2 : b s = .ok kd) (hk : keyD kd = some kk) (h3 : c s = .ok d) : fDget a b c s = .ok ((lookK kvs kk).getD d) := by
  unfold fDget
  rw [h]
  show (b s).bind _ = _
  rw [h2]
  show (c s).bind _ = _
  rw [h3]
  show (ofO (keyD kd)).bind _ = _
  rw [hk]
  rfl
theorem iterE {ds : List D} (h : a s = .ok d) (h2 : dIter d = some ds) : fIter a s = .ok ds := by
  unfold fIter
  rw [h]
  show ofO (dIter d) = _
  rw [h2]
  rfl
end
/-! loops -/
theorem for_inv {g : FG} {b : FS} (I : Ev → Prop) : ∀ (ds : List D) (s : Ev), I s → (∀ d ∈ ds, ∀ s, I s → ∃ s1, g d s = some s1 ∧ ∃ s2, b s1 = .nx s2 ∧ I s2) → ∃ s', fForL g b ds s = .nx s' ∧ I s'
  | [], s, h, _ => ⟨s, rfl, h⟩
  | d :: ds, s, h, st => by
    obtain ⟨s1, e1, s2, e2, h2⟩ := st d List.mem_cons_self s h
    obtain ⟨s', e3, h3⟩ := for_inv I ds s2 h2 fun d hd => st d (List.mem_cons_of_mem _ hd)
    refine ⟨s', ?_, h3⟩
    rw [fForL, e1]
    show (match b s1 with | .nx s2 => fForL g b ds s2 | .ct s2 => fForL g b ds s2 | .bk s2 => .nx s2 | o => o) = _
    rw [e2]
    exact e3
/-- .. with what was walked already -/
theorem for_go {α : Type} {g : FG} {b : FS} (f : α → D) (I : List α → Ev → Prop) (L : List α) (st : ∀ acc d post s, acc ++ d :: post = L → I acc s → ∃ s1, g (f d) s = some s1 ∧ ∃ s2, b s1 = .nx s2 ∧ I (acc ++ [d]) s2) : ∀ (ds acc : List α) (s : Ev), acc ++ ds = L → I acc s → ∃ s', fForL g b (ds.map f) s = .nx s' ∧ I L s'
  | [], acc, s, e, h => ⟨s, rfl, by rw [List.append_nil] at e; rw [← e]; exact h⟩
  | d :: ds, acc, s, e, h => by
    obtain ⟨s1, e1, s2, e2, h2⟩ := st acc d ds s e h
    obtain ⟨s', e3, h3⟩ := for_go f I L st ds (acc ++ [d]) s2 (by rw [List.append_assoc]; exact e) h2
    refine ⟨s', ?_, h3⟩
    rw [List.map_cons, fForL, e1]
    show (match b s1 with | .nx s2 => fForL g b _ s2 | .ct s2 => fForL g b _ s2 | .bk s2 => .nx s2 | o => o) = _
    rw [e2]
    exact e3
theorem for_acc {α : Type} {g : FG} {b : FS} (f : α → D) (I : List α → Ev → Prop) (L : List α) {s : Ev} (h0 : I [] s) (st : ∀ acc d post s, acc ++ d :: post = L → I acc s → ∃ s1, g (f d) s = some s1 ∧ ∃ s2, b s1 = .nx s2 ∧ I (acc ++ [d]) s2) : ∃ s', fForL g b (L.map f) s = .nx s' ∧ I L s' := for_go f I L st L [] s rfl h0
theorem lc_filter {α : Type} {g : FG} {t : FM Bool} {e : FM D} {s0 : Ev} (f : α → D) (p : α → Bool) (v : α → D) : ∀ ds : List α, (∀ d ∈ ds, ∃ s1, g (f d) s0 = some s1 ∧ t s1 = .ok (p d) ∧ (p d = true → e s1 = .ok (v d))) → fLcL g t e s0 (ds.map f) = .ok ((ds.filter p).map v)
  | [], _ => rfl
  | d :: ds, h => by
    obtain ⟨s1, e1, e2, e3⟩ := h d List.mem_cons_self
    have ih := lc_filter f p v ds fun d hd => h d (List.mem_cons_of_mem _ hd)
    rw [List.map_cons, fLcL, e1]
    show (t s1).calm.bind _ = _
    rw [e2]
    show (if p d = true then _ else _) = _
    cases hp : p d with
    | false =>
      rw [if_neg (by decide), ih, List.filter_cons, hp]
      rfl
    | true =>
      rw [if_pos rfl, e3 hp, ih, List.filter_cons, hp]
      rfl
theorem lc_map {α : Type} {g : FG} {e : FM D} {s0 : Ev} (f : α → D) (v : α → D) (ds : List α) (h : ∀ d ∈ ds, ∃ s1, g (f d) s0 = some s1 ∧ e s1 = .ok (v d)) : fLcL g fYes e s0 (ds.map f) = .ok (ds.map v) := by
  have := lc_filter (g := g) (t := fYes) (e := e) (s0 := s0) f (fun _ => true) v ds fun d hd => by
    obtain ⟨s1, e1, e2⟩ := h d hd
    exact ⟨s1, e1, rfl, fun _ => e2⟩
  rw [this, List.filter_eq_self.mpr fun _ _ => rfl]
/-- a dict by a comprehension over unlike names -/
theorem dc_map {α β : Type} {g : FG} {k e : FM D} {s0 : Ev} (f : α → D) (kx : α → Str) (v : α → β) (vd : β → D) : ∀ (ds : List α) (acc : List (Str × β)), (acc.map (·.1) ++ ds.map kx).Nodup → (∀ d ∈ ds, ∃ s1, g (f d) s0 = some s1 ∧ k s1 = .ok (.str (kx d)) ∧ e s1 = .ok (vd (v d))) →
    fDcL g fYes k e s0 (ds.map f) (mapD vd acc) = .ok (mapD vd (acc ++ ds.map fun d => (kx d, v d)))
  | [], acc, _, _ => by rw [List.map_nil, List.map_nil, List.append_nil]; rfl
  | d :: ds, acc, hn, h => by
    obtain ⟨s1, e1, e2, e3⟩ := h d List.mem_cons_self
    have hd : kx d ∉ acc.map (·.1) := fun z => by
      rw [List.map_cons] at hn
      exact (List.nodup_append.mp hn).2.2 _ z _ List.mem_cons_self rfl
    rw [List.map_cons, fDcL, e1]
    show (k s1).calm.bind _ = _
    rw [e2]
    show (e s1).calm.bind _ = _
    rw [e3]
    show fDcL g fYes k e s0 (ds.map f) (putD (mapD vd acc) (.inr (kx d)) (vd (v d))) = _
    rw [put_new hd, dc_map f kx v vd ds (acc ++ [(kx d, v d)]) (by rw [List.map_append, List.append_assoc]; exact hn) fun d hd => h d (List.mem_cons_of_mem _ hd), List.append_assoc]
    rfl
end DL
namespace DL
open PySem PySem.Spec PyProof.Rows L2
variable [TabC]
/-! ### == and != of dicts, by data -/
def eqK (kvs more : List (Key × D)) : Bool := kvs.all fun p => match lookK more p.1 with
  | some d => pyEq p.2 d
  | none => false
def okK (kvs : List (Key × D)) : Bool := kvs.all fun p => okD p.2
theorem look_ok {kvs : List (Key × D)} {k : Key} {d : D} (h : okK kvs = true) (e : lookK kvs k = some d) : okD d = true := by
  unfold lookK at e
  cases z : kvs.find? fun kv => decide (kv.1 = k) with
  | none => rw [z] at e; cases e
  | some p =>
    rw [z] at e
    cases e
    exact List.all_eq_true.mp h p (List.mem_of_find?_eq_some z)
section
variable {X : Cx} {pins : List (Addr × Obj)} {σ : L2.St} {H : Hp} {s : Shared} {aS : Addr} {A : AS}
/-- two things by data, compared -/
theorem eqP_data (I : Inv X pins σ H s) {B : Around} {d e : D} {v u : V} {x y : Value} (hd : okD d = true) (he : okD e = true) (r1 : Rep X.K aS H A d v) (r2 : Rep X.K aS H A e u) (q1 : RelV v x) (q2 : RelV u y) (hu : B.units + 64 < cLine) : SeqAt.EqP X.prog X.w B s x y (pyEq d e) := by
  obtain ⟨as, z1⟩ := Dp.reads I _ _ _ (Rep.dp d v (okD_lay hd) r1) q1
  obtain ⟨bs, z2⟩ := Dp.reads I _ _ _ (Rep.dp e u (okD_lay he) r2) q2
  have m : B.units + min (toPD d).depth (toPD e).depth < cLine := by
    unfold okD SeqAt.shaped at hd
    have := of_decide_eq_true (Bool.and_eq_true_iff.mp hd).2
    omega
  exact fun E Q q => SeqAt.eqAt_reads _ _ B s x y as bs z1 z2 (okD_lay hd) (okD_lay he) m _ _ E Q q
theorem hits_data (I : Inv X pins σ H s) {B : Around} (hu : B.units + 64 < cLine) {more : List (Key × D)} {ls : List (Key × V)} {vb : List (Key × Value)} (om : okK more = true) (rm : RepK X.K aS H A more ls) (rb : KV ls vb) :
    ∀ (kvs : List (Key × D)) (ks : List (Key × V)) (va : List (Key × Value)), okK kvs = true → RepK X.K aS H A kvs ks → KV ks va → PySem.W.KeqHitsP X.prog X.w B s vb va (eqK kvs more)
  | [], ks, va, _, r, ra => by
    rw [RepK] at r
    subst r
    cases ra
    exact .nil
  | (k, d) :: kvs, ks, va, ok, r, ra => by
    rw [RepK] at r
    obtain ⟨v, vr, e, r1, q⟩ := r
    subst e
    cases ra with
    | @cons p qv ps qs h t =>
      obtain ⟨h1, h2⟩ := h
      obtain ⟨key, x⟩ := qv
      have h1 : k = key := h1
      subst h1
      have h2 : RelV v x := h2
      have ok1 : okD d = true := (Bool.and_eq_true_iff.mp (show (okD d && okK kvs) = true from ok)).1
      have ok2 : okK kvs = true := (Bool.and_eq_true_iff.mp (show (okD d && okK kvs) = true from ok)).2
      have rr : RelO (valV ls k) (valueAt vb k) := rb.val k
      have unf : eqK ((k, d) :: kvs) more = ((match lookK more k with | some d' => pyEq d d' | none => false) && eqK kvs more) := rfl
      rw [unf]
      rcases rm.val k with ⟨z1, z2⟩ | ⟨d', v', z1, z2, z3⟩
      · rw [z2] at rr
        rw [z1]
        exact .miss (by cases hv : valueAt vb k with | none => rfl | some y => rw [hv] at rr; cases rr)
      · rw [z2] at rr
        obtain ⟨y, hy, ry⟩ := rr.some_of
        rw [z1]
        exact .hit hy (eqP_data I ok1 (look_ok om z1) r1 z3 h2 ry hu) (hits_data I hu om rm rb kvs vr qs ok2 q t)
end
/-- == with dicts -/
def dEqX (a b : D) : Option D := match a, b with
  | .dic kvs, .dic more => if (okK kvs && okK more) = true then some (.bl (kvs.length == more.length && eqK kvs more)) else none
  | a, b => dEq a b
theorem RepK.len {K : PySem.W.Frag} {aS : Addr} {H : Hp} {A : AS} : ∀ {ds : List (Key × D)} {vs : List (Key × V)}, RepK K aS H A ds vs → vs.length = ds.length
  | [], vs, h => by rw [RepK] at h; rw [h]; rfl
  | (k, d) :: ds, vs, h => by
    rw [RepK] at h
    obtain ⟨v, vr, e, _, q⟩ := h
    rw [e, List.length_cons, List.length_cons, RepK.len q]
def rDic (K : PySem.W.Frag) (f : Bool → Bool) : R2 := fun x y H Q => ∃ (aS : Addr) (A : AS) (a b : Addr) (kvs more : List (Key × D)) (ks ls : List (Key × V)), x = .ref a ∧ y = .ref b ∧ Rd H a (.dK ks) ∧ Rd H b (.dK ls) ∧ RepK K aS H A kvs ks ∧ RepK K aS H A more ls ∧ okK kvs = true ∧ okK more = true ∧ Q (.bl (f (kvs.length == more.length && eqK kvs more))) H
section
variable {X : Cx}
theorem op_eqDic (hu : X.A.units + 66 < cLine) : OpR X (compareOp .Eq) (rDic X.K id) := by
  intro pins s σ H x y v u Q I rx ry h
  obtain ⟨aS, A, a, b, kvs, more, ks, ls, rfl, rfl, ha, hb, r1, r2, o1, o2, q⟩ := h
  cases (show v = Value.ref a from rx)
  cases (show u = Value.ref b from ry)
  obtain ⟨_, ya, va, ra, da⟩ := (show ObjOk X.prog X.w H s.heap a (.dK ks) from ha.ok I.hok)
  obtain ⟨_, yb, vb, rb, db⟩ := (show ObjOk X.prog X.w H s.heap b (.dK ls) from hb.ok I.hok)
  refine PySem.W.rcP_dicts (knd := mixKind X.prog X.w) (r := eqK kvs more) ya yb da db (by omega) (fun _ => hits_data I (B := X.A.in1) (by show X.A.units + 1 + 64 < cLine; omega) o2 r2 rb kvs ks va o1 r1 ra) _ _ ?_
  rw [← ra.length, ← rb.length, r1.len, r2.len]
  exact ⟨.bl _, H, I, rfl, q⟩
end
end DL
namespace DL
open PySem PySem.Spec PyProof.Rows L2 PySem.Calls PyProof.V
variable [TabC]
section
variable {prog : Program} {w : World} {K : Type} [DecidableEq K] {knd : PySem.KeyKind prog w K} {A : Around} {s : Shared}
theorem rc_ne {a b : Addr} {ka kb : List (K × Value)} {r : Bool} (ha : (a == sysModules) = false) (hb : (b == sysModules) = false) (da : s.heap.DictOf knd a ka) (db : s.heap.DictOf knd b kb) (hu : A.units < cLine)
    (hits : ka.length = kb.length → PySem.W.KeqHitsP prog w A.in1 s kb ka r) (E Q : Value → Shared → Prop) (h : Q (.bool (!(ka.length == kb.length && r))) s) : wpAny (model prog w) A (richCompare .NotEq (.ref a) (.ref b)) Q E s := by
  refine wpAny_richCompare_same_room (op := .NotEq) da.typeIs db.typeIs PySem.F.slot_dict_ne (wpAny_call_entry PySem.F.slot_dict_ne da.typeIs PySem.F.entry_dict_ne ?_ (PySem.F.args_dict_ne_2 _ _)) hu
  show wpAny _ _ (Builtin.Dict.dictSlotArgs "__ne__" ⟨[.ref a, .ref b], []⟩ >>= _) _ _ s
  refine wpAny_bind ?_; unfold Builtin.Dict.dictSlotArgs
  refine wpAny_bind (wpAny_notOrdered_dict da.typeIs (show wpAny _ _ (pure (Value.ref a, Value.ref b)) _ _ s from wpAny_pure (wpAny_bind (wpAny_isInstance (T := "dict") db.typeIs PySem.F.sub_dict_dict ?_))))
  simp only [Bool.not_true, Bool.false_eq_true, if_false]
  refine wpAny_bind (wpAny_pure (wpAny_bind (wpAny_pure (wpAny_bind (PySem.W.samePairsP ha hb da db hits (wpAny_pure ⟨_, rfl, ⟨(fun x => nomatch x), ?_⟩⟩))))))
  cases hz : (ka.length == kb.length && r) <;> rw [hz] at h <;> exact h
end
section
variable {X : Cx}
theorem op_neDic (hu : X.A.units + 66 < cLine) : OpR X (compareOp .NotEq) (rDic X.K not) := by
  intro pins s σ H x y v u Q I rx ry h
  obtain ⟨aS, A, a, b, kvs, more, ks, ls, rfl, rfl, ha, hb, r1, r2, o1, o2, q⟩ := h
  cases (show v = Value.ref a from rx)
  cases (show u = Value.ref b from ry)
  obtain ⟨_, ya, va, ra, da⟩ := (show ObjOk X.prog X.w H s.heap a (.dK ks) from ha.ok I.hok)
  obtain ⟨_, yb, vb, rb, db⟩ := (show ObjOk X.prog X.w H s.heap b (.dK ls) from hb.ok I.hok)
  refine rc_ne (knd := mixKind X.prog X.w) (r := eqK kvs more) ya yb da db (by omega) (fun _ => hits_data I (B := X.A.in1) (by show X.A.units + 1 + 64 < cLine; omega) o2 r2 rb kvs ks va o1 r1 ra) _ _ ?_
  rw [← ra.length, ← rb.length, r1.len, r2.len]
  exact ⟨.bl _, H, I, rfl, q⟩
theorem Room.u66 {k : Nat} {A : Around} (h : Room k A) : A.units + 66 < cLine := by have := h.un; omega
def dNeX (a b : D) : Option D := match a, b with
  | .dic kvs, .dic more => if (okK kvs && okK more) = true then some (.bl (!(kvs.length == more.length && eqK kvs more))) else none
  | a, b => dNe a b
theorem od_eqX (hu : X.A.units + 66 < cLine) : OpD X (compareOp .Eq) dEqX := by
  obtain ⟨r0, h0, k0⟩ := od_eq (X := X) (by omega)
  refine ⟨_, OpR.or (op_eqDic hu) h0, fun aS H A n d1 d2 d v1 v2 Q c r1 r2 e w => ?_⟩
  unfold dEqX at e
  split at e
  · split at e
    · rename_i kvs more h
      cases e
      obtain ⟨o1, o2⟩ := Bool.and_eq_true_iff.mp h
      obtain ⟨a, ks, e1, _, g1, q1⟩ := r1
      obtain ⟨b, ls, e2, _, g2, q2⟩ := r2
      exact .inl ⟨aS, A, a, b, kvs, more, ks, ls, e1, e2, g1, g2, q1, q2, o1, o2, w _ _ KpS.refl c.st rep_bl⟩
    · cases e
  · exact .inr (k0 aS H A n d1 d2 d v1 v2 Q c r1 r2 e w)
theorem od_neX (hu : X.A.units + 66 < cLine) : OpD X (compareOp .NotEq) dNeX := by
  obtain ⟨r0, h0, k0⟩ := od_ne (X := X) (by omega)
  refine ⟨_, OpR.or (op_neDic hu) h0, fun aS H A n d1 d2 d v1 v2 Q c r1 r2 e w => ?_⟩
  unfold dNeX at e
  split at e
  · split at e
    · rename_i kvs more h
      cases e
      obtain ⟨o1, o2⟩ := Bool.and_eq_true_iff.mp h
      obtain ⟨a, ks, e1, _, g1, q1⟩ := r1
      obtain ⟨b, ls, e2, _, g2, q2⟩ := r2
      exact .inl ⟨aS, A, a, b, kvs, more, ks, ls, e1, e2, g1, g2, q1, q2, o1, o2, w _ _ KpS.refl c.st rep_bl⟩
    · cases e
  · exact .inr (k0 aS H A n d1 d2 d v1 v2 Q c r1 r2 e w)
end
end DL
namespace DL
open PySem PySem.Spec PyProof.Rows L2
variable [TabC]
/-! x + y, x & y, x | y by an own method of x's class -/
section
variable {X : Cx} {CX : CXT} {C f : Addr} {fd : FuncData} {ps : List Str} {sp : Sp} {E : XK} {k : Nat} {op : Operator}
end
section
variable {X : Cx} {E : XK} {O : List Nat} {a b : Expr} {mo me : EM D} {pos : Pos} {C : Str} {ps : List Str} {k k' : Nat} {sp : FSp} {op : Operator}
end
end DL
namespace DL
open PySem PySem.Spec PyProof.Rows L2
/-! x != y by an own __eq__ alone -/
section
variable {prog : Program} {w : World} {A : Around} {E : Value → Shared → Prop} {s : Shared} {K : PySem.W.Frag} {x C L f : Addr} {b : Value} {h₀ : Heap} {m : Str → Option Value} {ox : Obj} {od : Option Obj}
end
variable [TabC]
section
variable {X : Cx} {CX : CXT} {C f : Addr} {fd : FuncData} {ps : List Str} {sp : Sp} {E : XK} {k : Nat}
end
end DL
namespace DL
open PySem PySem.Spec PyProof.Rows L2
variable [TabC]
section
variable {X : Cx} {E : XK} {O : List Nat} {a b : Expr} {mo me : EM D} {pos : Pos} {C : Str} {ps : List Str} {k k' : Nat} {sp : FSp} {op : Operator}
end
section
variable {a b o : FM D}
end
end DL
namespace DL
open PySem PySem.Spec PyProof.Rows L2
variable [TabC]
/-! ### dicts with texts and tuples as keys -/
def lookM (kvs : List (D × D)) (k : MD.NK) : Option D := (kvs.find? fun p => decide (nkey p.1 = some k)).map (·.2)
def setM_ (k : MD.NK) (d : D) (p : D × D) : D × D := if nkey p.1 = some k then (p.1, d) else p
def putM (kvs : List (D × D)) (k : MD.NK) (kd d : D) : List (D × D) := if kvs.any (fun p => decide (nkey p.1 = some k)) = true then kvs.map (setM_ k d) else kvs ++ [(kd, d)]
/-- a key, not too deep -/
def mkey (d : D) : Option MD.NK := (nkey d).bind fun k => if k.depth ≤ 8 then some k else none
theorem mkey_of {d : D} {k : MD.NK} (h : mkey d = some k) : nkey d = some k ∧ k.depth ≤ 8 := by
  unfold mkey at h
  cases e : nkey d with
  | none => rw [e] at h; cases h
  | some x =>
    rw [e] at h
    change (if x.depth ≤ 8 then some x else none) = some k at h
    split at h
    · cases h; exact ⟨rfl, by assumption⟩
    · cases h
def dInMB : D → D → Option Bool
  | x, .dmx kvs => (mkey x).map fun k => (lookM kvs k).isSome
  | _, _ => none
def dInM (x y : D) : Option D := (dInMB x y).map .bl
def dIdxM : D → D → Option D
  | .dmx kvs, x => (mkey x).bind fun k => lookM kvs k
  | _, _ => none
section
variable {K : PySem.W.Frag} {aS : Addr} {H H' : Hp} {A : AS}
mutual
theorem Rep.key : ∀ (d : D) (v : V) (k : MD.NK), nkey d = some k → Rep K aS H A d v → MD.KeyV K H k v
  | .str x, v, k, h, r => by
    simp only [nkey, Option.some.injEq] at h
    subst h
    rw [Rep] at r
    rw [MD.KeyV]
    exact r
  | .int x, v, k, h, r => by
    simp only [nkey, Option.some.injEq] at h
    subst h
    rw [Rep] at r
    rw [MD.KeyV]
    exact r
  | .non, v, k, h, r => by
    simp only [nkey, Option.some.injEq] at h
    subst h
    rw [Rep] at r
    rw [MD.KeyV]
    exact r
  | .tup ds, v, k, h, r => by
    rw [nkey] at h
    obtain ⟨ks, e, rfl⟩ := Option.map_eq_some_iff.mp h
    rw [Rep] at r
    obtain ⟨a, xs, ev, q, r⟩ := r
    rw [MD.KeyV]
    exact ⟨a, xs, ev, q.sq, RepL.key ds xs ks e r⟩
  | .bl _, v, k, h, r => by simp [nkey] at h
  | .raw _, v, k, h, r => by simp [nkey] at h
  | .st, v, k, h, r => by simp [nkey] at h
  | .lst _, v, k, h, r => by simp [nkey] at h
  | .dic _, v, k, h, r => by simp [nkey] at h
  | .dmx _, v, k, h, r => by simp [nkey] at h
  | .obj _ _, v, k, h, r => by simp [nkey] at h
  | .exc _ _, v, k, h, r => by simp [nkey] at h
theorem RepL.key : ∀ (ds : List D) (vs : List V) (ks : List MD.NK), nkeys ds = some ks → RepL K aS H A ds vs → MD.KeyVs K H ks vs
  | [], vs, ks, h, r => by
    simp only [nkeys, Option.some.injEq] at h
    subst h
    rw [RepL] at r
    rw [MD.KeyVs]
    exact r
  | d :: ds, vs, ks, h, r => by
    rw [nkeys] at h
    obtain ⟨k, e1, h⟩ := Option.bind_eq_some_iff.mp h
    obtain ⟨kr, e2, rfl⟩ := Option.map_eq_some_iff.mp h
    rw [RepL] at r
    obtain ⟨v, vr, e, r, q⟩ := r
    rw [MD.KeyVs]
    exact ⟨v, vr, e, Rep.key d v k e1 r, RepL.key ds vr kr e2 q⟩
end
theorem RepB.key {d : D} {v : V} {k : MD.NK} (h : nkey d = some k) (r : RepB K aS H A d v) : MD.KeyV K H k v := by
  cases d with
  | lst _ => simp [nkey] at h
  | dic _ => simp [nkey] at h
  | dmx _ => simp [nkey] at h
  | obj _ _ => simp [nkey] at h
  | exc _ _ => simp [nkey] at h
  | _ => exact Rep.key (aS := aS) (A := A) _ _ _ h r
theorem RepP.keys : ∀ {ds : List (D × D)} {ys : List MD.EntV}, RepP K aS H A ds ys → MD.Keys K H ys
  | [], ys, r => by
    rw [RepP] at r
    subst r
    exact fun y hy => nomatch hy
  | (k, d) :: ds, ys, r => by
    rw [RepP] at r
    obtain ⟨nk, kv, v, vr, rfl, ⟨e1, e2⟩, rk, rd, q⟩ := r
    intro y hy
    rcases List.mem_cons.mp hy with rfl | hy
    · exact ⟨Rep.key _ _ _ e1 rk, e2⟩
    · exact RepP.keys q y hy
theorem RepP.look : ∀ {ds : List (D × D)} {ys : List MD.EntV} (k : MD.NK), RepP K aS H A ds ys → (lookM ds k = none ∧ MD.lookV ys k = none) ∨ ∃ d v, lookM ds k = some d ∧ MD.lookV ys k = some v ∧ Rep K aS H A d v
  | [], ys, k, r => by
    rw [RepP] at r
    subst r
    exact .inl ⟨rfl, rfl⟩
  | (kd, d) :: ds, ys, k, r => by
    rw [RepP] at r
    obtain ⟨nk, kv, v, vr, rfl, ⟨e1, e2⟩, rk, rd, q⟩ := r
    unfold lookM MD.lookV
    rw [List.find?_cons, List.find?_cons]
    by_cases e : nk = k
    · subst e
      simp only [e1, decide_true]
      exact .inr ⟨d, v, rfl, rfl, rd⟩
    · have e' : ¬ nkey kd = some k := fun z => e (by rw [e1] at z; exact Option.some.inj z)
      simp only [e', e, decide_false]
      exact RepP.look k q
theorem RepP.len : ∀ {ds : List (D × D)} {ys : List MD.EntV}, RepP K aS H A ds ys → ys.length = ds.length
  | [], ys, r => by rw [RepP] at r; rw [r]; rfl
  | (k, d) :: ds, ys, r => by
    rw [RepP] at r
    obtain ⟨nk, kv, v, vr, rfl, _, _, _, q⟩ := r
    rw [List.length_cons, List.length_cons, RepP.len q]
theorem RepP.nil : RepP K aS H A [] [] := by rw [RepP]
theorem RepP.cons {k d : D} {nk : MD.NK} {kv v : V} {ds : List (D × D)} {ys : List MD.EntV} (h : nkey k = some nk ∧ nk.depth ≤ 8) (rk : Rep K aS H A k kv) (r : Rep K aS H A d v) (q : RepP K aS H A ds ys) : RepP K aS H A ((k, d) :: ds) ((nk, kv, v) :: ys) := by
  rw [RepP]
  exact ⟨nk, kv, v, ys, rfl, h, rk, r, q⟩
theorem RepP.any (k : MD.NK) : ∀ {ds : List (D × D)} {ys : List MD.EntV}, RepP K aS H A ds ys → (ds.any (fun p => decide (nkey p.1 = some k)) = true ↔ k ∈ ys.map (·.1))
  | [], ys, r => by
    rw [RepP] at r
    subst r
    simp
  | (kd, d) :: ds, ys, r => by
    rw [RepP] at r
    obtain ⟨nk, kv, v, vr, rfl, ⟨e1, e2⟩, rk, rd, q⟩ := r
    rw [List.any_cons, Bool.or_eq_true, List.map_cons, List.mem_cons, RepP.any k q, e1]
    simp only [decide_eq_true_eq, Option.some.injEq]
    constructor
    · rintro (z | z)
      · exact .inl z.symm
      · exact .inr z
    · rintro (z | z)
      · exact .inl z.symm
      · exact .inr z
theorem RepP.set {k : MD.NK} {d : D} {v : V} (rd : Rep K aS H A d v) : ∀ {ds : List (D × D)} {ys : List MD.EntV}, RepP K aS H A ds ys → RepP K aS H A (ds.map (setM_ k d)) (ys.map (MD.setV k v))
  | [], ys, r => by
    rw [RepP] at r
    subst r
    exact RepP.nil
  | (kd, d') :: ds, ys, r => by
    rw [RepP] at r
    obtain ⟨nk, kv, v', vr, rfl, ⟨e1, e2⟩, rk, rd', q⟩ := r
    rw [List.map_cons, List.map_cons]
    have ih := RepP.set (k := k) rd q
    unfold setM_ MD.setV
    by_cases e : nk = k
    · rw [if_pos (show nkey kd = some k by rw [e1, e]), if_pos e]
      exact RepP.cons ⟨e1, e2⟩ rk rd ih
    · rw [if_neg (show ¬ nkey kd = some k from fun z => e (by rw [e1] at z; exact Option.some.inj z)), if_neg e]
      exact RepP.cons ⟨e1, e2⟩ rk rd' ih
theorem RepP.app : ∀ {ds es : List (D × D)} {ys zs : List MD.EntV}, RepP K aS H A ds ys → RepP K aS H A es zs → RepP K aS H A (ds ++ es) (ys ++ zs)
  | [], _, ys, _, r, q => by rw [RepP] at r; subst r; exact q
  | (k, d) :: ds, es, ys, zs, r, q => by
    rw [RepP] at r
    obtain ⟨nk, kv, v, vr, rfl, e, rk, rd, q'⟩ := r
    exact RepP.cons e rk rd (RepP.app q' q)
theorem RepP.put {k : MD.NK} {kd d : D} {kv v : V} {ds : List (D × D)} {ys : List MD.EntV} (hk : nkey kd = some k ∧ k.depth ≤ 8) (rk : Rep K aS H A kd kv) (rd : Rep K aS H A d v) (r : RepP K aS H A ds ys) : RepP K aS H A (putM ds k kd d) (MD.putV ys k kv v) := by
  unfold putM MD.putV
  by_cases h : k ∈ ys.map (·.1)
  · rw [if_pos h, if_pos ((r.any k).mpr h)]
    exact r.set rd
  · rw [if_neg h, if_neg fun z => h ((r.any k).mp z)]
    exact r.app (RepP.cons hk rk rd RepP.nil)
theorem repB_dmx {ds : List (D × D)} {v : V} (h : RepB K aS H A (.dmx ds) v) : ∃ a ys, v = .ref a ∧ a ≠ aS ∧ Rd H a (MD.MixO TabC.w a ys) ∧ RepP K aS H A ds ys := h
/-- a plain dict's entries as mixed ones -/
def keyM : Key → D
  | .inl i => .int i
  | .inr x => .str x
def mixD (kvs : List (Key × D)) : List (D × D) := kvs.map fun p => (keyM p.1, p.2)
theorem key_M (k : Key) : nkey (keyM k) = some (MD.nkK k) ∧ (MD.nkK k).depth ≤ 8 := by
  cases k with
  | inl i => exact ⟨by simp only [keyM, nkey, MD.nkK], by simp [MD.nkK, NestedKey.depth]⟩
  | inr x => exact ⟨by simp only [keyM, nkey, MD.nkK], by simp [MD.nkK, NestedKey.depth]⟩
theorem rep_keyM (k : Key) : Rep K aS H A (keyM k) (kV k) := by
  cases k with
  | inl i => exact rep_int
  | inr x => exact rep_str
theorem RepK.mix : ∀ {ds : List (Key × D)} {ys : List (Key × V)}, RepK K aS H A ds ys → RepP K aS H A (mixD ds) (ys.map MD.entK)
  | [], ys, r => by rw [RepK] at r; subst r; exact RepP.nil
  | (k, d) :: ds, ys, r => by
    rw [RepK] at r
    obtain ⟨v, vr, rfl, rd, q⟩ := r
    exact RepP.cons (key_M k) (rep_keyM k) rd (RepK.mix q)
end
section
variable {X : Cx} {E : XK} {O OL : List Nat} {a b e ix : Expr} {ma mb m mk : EM D} {pos : Pos} {i : Nat}
theorem mget_of {aS a : Addr} {H : Hp} {A : AS} {x : D} {kvs : List (D × D)} {ys : List MD.EntV} {v : V} {k : MD.NK} (hw : X.w = TabC.w) (hk : mkey x = some k) (r1 : RepB X.K aS H A x v) (h : Rd H a (MD.MixO TabC.w a ys)) (q : RepP X.K aS H A kvs ys) : MD.MGet X H a v (MD.lookV ys k) := by
  obtain ⟨e1, e2⟩ := mkey_of hk
  exact ⟨ys, k, by rw [hw]; exact h, q.keys, r1.key e1, e2, rfl⟩
theorem od_inM (hu : X.A.units + 9 < cLine) (hw : X.w = TabC.w) : OpD X (compareOp .In) dInM := by
  refine ⟨_, MD.op_mIn hu, fun aS H A n d1 d2 d v1 v2 Q c r1 r2 e w => ?_⟩
  unfold dInM at e
  obtain ⟨t, hb, rfl⟩ := Option.map_eq_some_iff.mp e
  unfold dInMB at hb
  split at hb
  · rename_i x kvs
    obtain ⟨k, hk, rfl⟩ := Option.map_eq_some_iff.mp hb
    obtain ⟨a, ys, rfl, na, hr, q⟩ := repB_dmx r2
    refine ⟨a, _, rfl, mget_of hw hk r1 hr q, ?_⟩
    rcases q.look k with ⟨z1, z2⟩ | ⟨d', v', z1, z2, _⟩
    · rw [z1] at w
      rw [z2]
      exact w _ _ KpS.refl c.st rep_bl
    · rw [z1] at w
      rw [z2]
      exact w _ _ KpS.refl c.st rep_bl
  · cases hb
theorem ve_subM (hu : X.A.units + 9 < cLine) (hw : X.w = TabC.w) (ha : VB X E O a ma) (hb : VB X E O b mb) (hp : NoSl b) : VE X E O (.Subscript a b pos) (eBin dIdxM ma mb) := by
  obtain ⟨mna, ta, pa, fa⟩ := ha
  obtain ⟨mnb, tb, pb, fb⟩ := hb
  refine ⟨mn_bin mna mnb, _, MD.pe_mget hu pa pb hp, fun aS A0 H0 σ H s n xq Q S L hm => ?_⟩
  refine fa aS A0 H0 σ H s n xq _ S L (mna _ _ _ _ _ (fun d1 n1 q v1 H1 k1 st1 r1 => ?_) hm)
  refine fb aS A0 H0 σ H1 s n1 xq _ (S.step k1 st1) L (mnb _ _ _ _ _ (fun d2 n2 q2 v2 H2 k2 st2 r2 => ?_) q)
  obtain ⟨d, e, q3⟩ := q2
  have r1' := r1.kp k2 st1 AV.st
  unfold dIdxM at e
  split at e
  · rename_i kvs x
    obtain ⟨k, hk, hl⟩ := Option.bind_eq_some_iff.mp e
    obtain ⟨a, ys, rfl, na, hr, q⟩ := repB_dmx r1'
    rcases q.look k with ⟨z1, z2⟩ | ⟨d', v', z1, z2, z3⟩
    · rw [z1] at hl; cases hl
    · rw [z1] at hl
      cases hl
      have g := mget_of hw hk r2 hr q
      rw [z2] at g
      exact ⟨a, v', rfl, g, q3 _ _ (k1.trans k2) st2 z3⟩
  · cases e
def sMput (i : Nat) (mk m : EM D) : SM := fun xq de s n => m xq s n fun d n1 => mk xq s n1 fun k n2 => ∃ kk kvs, mkey k = some kk ∧ s[i]? = some (some (.dmx kvs)) ∧ kvs.length < LIM ∧ de.nx (s.set i (some (.dmx (putM kvs kk k d)))) n2
theorem vs_mput {x : Str} {px ps : Pos} (hu : X.A.units + 9 < cLine) (hw : X.w = TabC.w) (hi : i ∈ O) (hN : X.N[i]? = some x) (hv : Vis X.env.scope x) (hk : VE X E O ix mk) (h : VE X E O e m) (hs : swapsWith e (some (.Subscript (.Name x px) ix ps)) pos.line X.env = pure false := by rfl)
    (hd : (x == ("__debug__" : Str)) = false := by decide) (hcd : (x == ("__classdict__" : Str)) = false := by decide) : VS X E O O OL (.Assign [.Subscript (.Name x px) ix ps] e pos) (sMput i mk m) := by
  obtain ⟨mn, t, pe, f⟩ := h
  obtain ⟨mnk, tk, pk, fk⟩ := hk
  refine ⟨_, MD.ps_mput hu (pe_var hN hv hd hcd) pk pe hs, fun aS A0 H0 σ H s n xq de De S L k h => ?_⟩
  refine f aS A0 H0 σ H s n xq _ S L (mn _ _ _ _ _ (fun d n1 q v H1 k1 st1 r1 => ?_) h)
  have S1 := S.step k1 st1
  obtain ⟨d0, a, e1, e2, _⟩ := S.ow i hi
  refine ⟨.ref a, e2, fk aS A0 H0 σ H1 s n1 xq _ S1 L (mnk _ _ _ _ _ (fun dk n2 q2 u H2 k2 st2 r2 => ?_) q)⟩
  obtain ⟨kk, kvs, z1, z2, z3, q2⟩ := q2
  have S2 := S1.step k2 st2
  obtain ⟨a', ys, y1, y2, y3, y4⟩ := own_dmx S2 hi z2
  rw [e2] at y1
  cases y1
  obtain ⟨w1, w2⟩ := mkey_of z1
  refine ⟨a, _, rfl, ⟨ys, kk, by rw [hw]; exact y3, y4.keys, Rep.key _ _ _ w1 r2, w2, by rw [y4.len]; exact lim_lt z3, rfl⟩, ?_⟩
  have z := S2.mutM hi e2 y3 (y4.put ⟨w1, w2⟩ r2 (r1.kp k2 st1 AV.st))
  rw [hw]
  exact k.nx _ _ _ _ z q2
/-- a new dict, seen as one with mixed keys -/
def eMix (m : EM D) : EM D := fun xq s n Q => m xq s n fun d n1 => ∃ kvs, d = .dic kvs ∧ Q (.dmx (mixD kvs)) n1
theorem vf_mix (hw : X.w = TabC.w) (h : VF X E O e m) : VF X E O e (eMix m) := by
  obtain ⟨mn, t, pe, f⟩ := h
  refine ⟨fun xq s n Q Q' hq w => mn _ _ _ _ _ (fun d n' ⟨kvs, z, w⟩ => ⟨kvs, z, hq _ _ w⟩) w, _, MD.pe_mix pe, fun aS A0 H0 σ H s n xq Q S L hm => ?_⟩
  refine f aS A0 H0 σ H s n xq _ S L (mn _ _ _ _ _ (fun d n' q a H' ha k st o => ?_) hm)
  obtain ⟨kvs, rfl, q⟩ := q
  obtain ⟨ys, e1, r⟩ := o
  have hk : KpS aS H (upd H' a (MD.MixO X.w a (ys.map MD.entK))) := fun c u z zn => by
    have hc : c ≠ a := fun y => by rw [y, ha] at z; cases z
    rw [upd_ne hc]
    exact k c u z zn
  refine ⟨a, ys, rfl, e1, q a _ ha hk ?_ ?_⟩
  · obtain ⟨a0, cs, i, g, m, d, z1, z2, ⟨ob, z3⟩, z4, z5, z6, z7, z8, z9, zt⟩ := st
    refine ⟨a0, cs, i, g, m, d, ?_, z2, ⟨ob, ?_⟩, z4, z5, z6, z7, z8, z9, tabs_poke zt e1 (fun _ z => nomatch z) (fun _ _ z => by unfold LamX.CodeO at z; cases z) (fun _ z => by unfold MD.MixO at z; cases z)⟩
    · rw [upd_ne (show aS ≠ a from fun z => by rw [z, e1] at z1; cases z1)]; exact z1
    · rw [upd_ne (show a0 ≠ a from fun z => by rw [z, e1] at z3; cases z3)]; exact z3
  · rw [hw]
    refine ⟨_, upd_same, RepP.mono ?_ _ _ r.mix⟩
    exact sub_poke (.inr rfl) e1 fun _ z => nomatch z
end
/-! flat forms -/
def fMix (a : FM D) : FM D := fun s => (a s).bind fun d => match d with
  | .dic kvs => .ok (.dmx (mixD kvs))
  | _ => .bad
theorem le_mix {a : FM D} : ∀ xq s n Q, up (fMix a) xq s n Q → eMix (up a) xq s n Q := fun xq s n Q h => by
  unfold eMix up
  exact wp_mono (fun d h => by
    cases d with
    | dic kvs => exact ⟨kvs, rfl, h⟩
    | _ => exact h.elim) (wp_bind h)
def dmxAt (s : Ev) (i : Nat) (k : List (D × D) → SO) : SO := match s[i]? with
  | some (some (.dmx kvs)) => k kvs
  | _ => .bad
def fMput (i : Nat) (k a : FM D) : FS := fun s => (a s).so fun d => (k s).so fun kd => (ofO (mkey kd)).so fun kk => dmxAt s i fun kvs => if kvs.length < LIM then .nx (s.set i (some (.dmx (putM kvs kk kd d)))) else .bad
theorem wp_dmxAt {s : Ev} {i : Nat} {k : List (D × D) → SO} {xq : XQ} {de : DE} {n : Nat} (h : (dmxAt s i k).wp xq de n) : ∃ kvs, s[i]? = some (some (.dmx kvs)) ∧ (k kvs).wp xq de n := by
  unfold dmxAt at h
  split at h
  · rename_i kvs e
    exact ⟨kvs, e, h⟩
  · exact h.elim
theorem ls_mput {i : Nat} {a b : FM D} : ∀ xq de s n, upS (fMput i b a) xq de s n → sMput i (up b) (up a) xq de s n := fun xq de s n h => by
  unfold sMput up
  refine wp_mono (fun d h => wp_mono (fun kd h => ?_) (wp_so h)) (wp_so h)
  obtain ⟨kk, e, h⟩ := wp_ofO (wp_so h)
  obtain ⟨kvs, e2, h⟩ := wp_dmxAt h
  obtain ⟨e3, h⟩ := so_dec h
  exact ⟨kk, kvs, e, e2, e3, h⟩
end DL
namespace DL
open PySem PySem.Spec PyProof.Rows L2
variable [TabC]
/-! ### set(xs) of a list or tuple of texts and numbers; len of it -/
section
variable {κ : Type} [DecidableEq κ]
end
section
variable {P : Program} {w : World} {A : Around} {R : Result → Shared → Prop} {I : Addr} {fp wr : List Addr} {G : Array GenState → Array GenState → Prop} {n : Nat} {Pv : Nat → Value → Prop} {St : Nat → Shared → Prop}
end
section
variable {P : Program} {w : World} {A : Around} {E : Value → Shared → Prop} {s : Shared}
end
section
variable {X : Cx}
end
section
variable {X : Cx} {E : XK} {O : List Nat} {a : Expr} {m : EM D} {p p2 q pos : Pos}
end
end DL
namespace DL
open PySem PySem.Spec PyProof.Rows L2
open PySem.SeqAt PySem.AutoSeq1 PySem.MeetsSeq PySem.MeetsSeq2 PySem.MeetsSeq3 PySem.SeqRoads2
variable [TabC]
/-! ### x in a list of dicts -/
section
variable {prog : Program} {w : World}
end
section
variable {X : Cx} {pins : List (Addr × Obj)} {σ : L2.St} {H : Hp} {s : Shared} {aS : Addr} {A : AS}
end
section
variable {X : Cx} {pins : List (Addr × Obj)} {σ : L2.St} {H : Hp} {s : Shared} {aS : Addr} {A : AS}
end
section
variable {X : Cx}
theorem Room.u9 {k : Nat} {A : Around} (h : Room k A) : A.units + 9 < cLine := by have := h.un; omega
end
end DL
namespace DL
open PySem PySem.Spec PyProof.Rows L2
variable [TabC]
abbrev N_is_name : List Str := ["thing", "sign"]
def B_is_name : FS :=
  (fSeq (fIfS (fOrT (fNotT (fVal (fBlt dIsi (fCons (fVar 0) (fCons (fC (.raw (.ty "str"))) fNil))))) (fOrT (fBinT dEq (fVar 0) (fC (.str "clock"))) (fNotT (fChainT dLe dLe (fC (.int 1)) (fBlt dLen (fCons (fVar 0) fNil)) (fC (.int 8)))))) (fRet (fC (.bl false))) fNilS) (fRet (fBlt dAll (fCons (fLc (fIter (fVar 0)) [1] (fgNm 1) fYes (fBin dIn (fVar 1) (fC (.str "abcdefghijklmnopqrstuvwxyz")))) fNil))))
def f_is_name : FFn := runB N_is_name B_is_name
abbrev N_is_list : List Str := ["thing"]
def B_is_list : FS :=
  (fRet (fBlt dIsi (fCons (fVar 0) (fCons (fTup (fCons (fC (.raw (.ty "list"))) (fCons (fC (.raw (.ty "tuple"))) fNil))) fNil))))
def f_is_list : FFn := runB N_is_list B_is_list
abbrev N_is_integer : List Str := ["thing"]
def B_is_integer : FS :=
  (fRet (fAnd (fBlt dIsi (fCons (fVar 0) (fCons (fC (.raw (.ty "int"))) fNil))) (fNot (fBlt dIsi (fCons (fVar 0) (fCons (fC (.raw (.ty "bool"))) fNil))))))
def f_is_integer : FFn := runB N_is_integer B_is_integer
abbrev N_rising : List Str := ["things", "found", "thing", "one"]
def b_rising_1 : FS := (fIns 1 (fCons (fBlt dLen (fCons (fLc (fOwnL 1) ([3] ++ [1]) (fgNm 3) (fBinT dLe (fVar 3) (fVar 2)) (fVar 3)) fNil)) (fCons (fVar 2) fNil)))
def B_rising : FS :=
  (fSeq (fSetF 1 (fLst fNil)) (fSeq (fFor (fIter (fVar 0)) (fgNm 2) (b_rising_1)) (fRet (fVar 1))))
def f_rising : FFn := runB N_rising B_rising
abbrev N_frozen : List Str := ["thing", "one"]
def B_frozen (sf : FFn) : FS :=
  (fRet (fIf (fVal (fCall 1 f_is_list [] (fCons (fVar 0) fNil))) (fBlt dTuple (fCons (fLc (fIter (fVar 0)) [1] (fgNm 1) fYes (fCall 1 sf [] (fCons (fVar 1) fNil))) fNil)) (fVar 0)))
def r_frozen : Nat → FFn
  | 0 => fun _ => .bad
  | k + 1 => runB N_frozen (B_frozen (r_frozen k))
abbrev N_is_anchor : List Str := ["thing", "names"]
def B_is_anchor : FS :=
  (fRet (fOr (fBin dEq (fVar 0) (fC (.str "clock"))) (fBin dIn (fVar 0) (fBlt dList (fCons (fVar 1) fNil)))))
def f_is_anchor : FFn := runB N_is_anchor B_is_anchor
abbrev N_is_book_row : List Str := ["thing", "names"]
def B_is_book_row : FS :=
  (fSeq (fIfS (fOrT (fNotT (fVal (fCall 1 f_is_list [] (fCons (fVar 0) fNil)))) (fOrT (fBinT dNe (fBlt dLen (fCons (fVar 0) fNil)) (fC (.int 2))) (fNotT (fVal (fCall 2 f_is_anchor [] (fCons (fBin dIdx (fVar 0) (fC (.int 0))) (fCons (fVar 1) fNil))))))) (fRet (fC (.bl false))) fNilS) (fRet (fAnd (fCall 1 f_is_integer [] (fCons (fBin dIdx (fVar 0) (fC (.int 1))) fNil)) (fBin dGe (fBin dIdx (fVar 0) (fC (.int 1))) (fC (.int 0))))))
def f_is_book_row : FFn := runB N_is_book_row B_is_book_row
abbrev N_way_up : List Str := ["anchors", "name", "found", "here"]
def b_way_up_1 : FS := (fSeq (fApp 2 (fVar 3)) (fSet 3 (fDget (fVar 0) (fVar 3) (fC (.str "clock")))))
def B_way_up : FS :=
  (fSeq (fSetF 2 (fLst fNil)) (fSeq (fSet 3 (fDget (fVar 0) (fVar 1) (fC (.str "clock")))) (fSeq (fWhile (fAndT (fBinT dNe (fVar 3) (fC (.str "clock"))) (fBinT dNotIn (fVar 3) (fVar 2))) (b_way_up_1)) (fRet (fVar 2)))))
def f_way_up : FFn := runB N_way_up B_way_up
abbrev N_round_from : List Str := ["anchors", "name", "found"]
def b_round_from_1 : FS := (fApp 2 (fBin dIdx (fVar 0) (fBin dIdx (fVar 2) (fNeg (fC (.int 1))))))
def B_round_from : FS :=
  (fSeq (fSetF 2 (fLst (fCons (fVar 1) fNil))) (fSeq (fWhile (fBinT dNe (fBin dIdx (fVar 0) (fBin dIdx (fVar 2) (fNeg (fC (.int 1))))) (fVar 1)) (b_round_from_1)) (fRet (fVar 2))))
def f_round_from : FFn := runB N_round_from B_round_from
abbrev N_check_rounds : List Str := ["anchors", "name"]
def b_check_rounds_1 : FS := (fIfS (fBinT dIn (fVar 1) (fCall 2 f_way_up [] (fCons (fVar 0) (fCons (fVar 1) fNil)))) (fRaise "Round" ["names"] (fCons (fCall 2 f_round_from [] (fCons (fVar 0) (fCons (fVar 1) fNil))) fNil)) fNilS)
def B_check_rounds : FS :=
  (fFor (fIter (fCall 1 f_rising [] (fCons (fBlt dList (fCons (fVar 0) fNil)) fNil))) (fgNm 1) (b_check_rounds_1))
def f_check_rounds : FFn := runB N_check_rounds B_check_rounds
abbrev N_Book___init__ : List Str := ["self", "rows", "name", "pair"]
def b_Book___init___1 : FS := (fIfS (fOrT (fNotT (fVal (fCall 1 f_is_name [] (fCons (fVar 2) fNil)))) (fNotT (fVal (fCall 2 f_is_book_row [] (fCons (fVar 3) (fCons (fVar 1) fNil)))))) (fRaise "BadRow" ["name"] (fCons (fVar 2) fNil)) fNilS)
def B_Book___init__ : FS :=
  (fSeq (fForD (fun s => (s[1]?).join) itemsD (fgTp (fgsCons (fgNm 2) (fgsCons (fgNm 3) fgsNil))) (b_Book___init___1)) (fSeq (fDrop (fCall 1 f_check_rounds [] (fCons (fDcD (fun s => (s[1]?).join) itemsD [2, 3] (fgTp (fgsCons (fgNm 2) (fgsCons (fgNm 3) fgsNil))) fYes (fVar 2) (fBin dIdx (fVar 3) (fC (.int 0)))) fNil))) (fFldS 0 "Book" "pairs" (fDc (fIter (fCall 1 f_rising [] (fCons (fBlt dList (fCons (fVar 1) fNil)) fNil))) [2] (fgNm 2) fYes (fVar 2) (fBlt dTuple (fCons (fBin dIdx (fVar 1) (fVar 2)) fNil))))))
def f_Book___init__ : FFn := runI "Book" N_Book___init__ B_Book___init__
abbrev N__law_same : List Str := ["_law_found", "_law_due", "_law_x", "_law_y"]
def B__law_same (sf : FFn) : FS :=
  (fSeq (fIfS (fVal (fBlt dIsi (fCons (fVar 1) (fCons (fTup (fCons (fC (.raw (.ty "list"))) (fCons (fC (.raw (.ty "tuple"))) fNil))) fNil)))) (fSeq (fIfS (fOrT (fBinT dNeX (fBlt dIsi (fCons (fVar 0) (fCons (fC (.raw (.ty "list"))) fNil))) (fBlt dIsi (fCons (fVar 1) (fCons (fC (.raw (.ty "list"))) fNil)))) (fBinT dNeX (fBlt dIsi (fCons (fVar 0) (fCons (fC (.raw (.ty "tuple"))) fNil))) (fBlt dIsi (fCons (fVar 1) (fCons (fC (.raw (.ty "tuple"))) fNil))))) (fRet (fC (.bl false))) fNilS) (fRet (fAnd (fBin dEqX (fBlt dLen (fCons (fVar 0) fNil)) (fBlt dLen (fCons (fVar 1) fNil))) (fBlt dAll (fCons (fLc (fZip (fVar 0) (fVar 1)) [2, 3] (fgTp (fgsCons (fgNm 2) (fgsCons (fgNm 3) fgsNil))) fYes (fCall 2 sf [] (fCons (fVar 2) (fCons (fVar 3) fNil)))) fNil))))) fNilS) (fSeq (fIfS (fVal (fBlt dIsi (fCons (fVar 1) (fCons (fC (.raw (.ty "int"))) fNil)))) (fRet (fAnd (fBlt dIsi (fCons (fVar 0) (fCons (fC (.raw (.ty "int"))) fNil))) (fAnd (fBin dEqX (fBlt dIsi (fCons (fVar 0) (fCons (fC (.raw (.ty "bool"))) fNil))) (fBlt dIsi (fCons (fVar 1) (fCons (fC (.raw (.ty "bool"))) fNil)))) (fBin dEqX (fVar 0) (fVar 1))))) fNilS) (fRet (fAnd (fBin dIs (fBlt dIsi (fCons (fVar 0) (fCons (fTup (fCons (fC (.raw (.ty "int"))) (fCons (fC (.raw (.ty "list"))) (fCons (fC (.raw (.ty "tuple"))) fNil)))) fNil))) (fC (.bl false))) (fBin dEqX (fVar 0) (fVar 1))))))
def r__law_same : Nat → FFn
  | 0 => fun _ => .bad
  | k + 1 => runB N__law_same (B__law_same (r__law_same k))
def f__law_same : FFn := r__law_same 6
end DL
namespace DL
open PySem PySem.Spec PyProof.Rows L2
variable [TabC]
/-! ### the program's data, typed -/
abbrev txs (xs : List Str) : D := .lst (xs.map .str)
inductive Mo where
  | clock | start (x : Str) | done (x : Str)
def Mo.d : Mo → D
  | .clock => .str "clock"
  | .start x => .tup [.str "start", .str x]
  | .done x => .tup [.str "done", .str x]
def Mo.ok (ks : List Str) : Mo → Prop
  | .clock => True
  | .start x => x ∈ ks
  | .done x => x ∈ ks
structure Wi where
  one : Mo
  other : Mo
  most : Int
abbrev Dis := List (Str × Int × Int)
abbrev Row := List (Str × Str × Int)
abbrev Anc := List (Str × Str)
abbrev keys {α : Type} (l : List (Str × α)) : List Str := l.map (·.1)
/-! names -/
def isGood (x : Str) : Bool := (match f_is_name [.str x] with | .ok (.bl b) => b | _ => false) && PyData.strOk x && !(x == "clock")
structure Good (x : Str) : Prop where
  nm : f_is_name [.str x] = .ok (.bl true)
  ok : sOk x
  nc : x ≠ "clock"
theorem good_of {x : Str} (h : isGood x = true) : Good x := by
  unfold isGood at h
  rw [Bool.and_eq_true, Bool.and_eq_true] at h
  obtain ⟨⟨h1, h2⟩, h3⟩ := h
  refine ⟨?_, h2, by simpa using h3⟩
  split at h1
  · rename_i b e
    rw [e, h1]
  · cases h1
theorem clock_ok : sOk "clock" := by decide +kernel
/-! rising -/
def strLe (y x : Str) : Bool := !decide (x.cps.toList < y.cps.toList)
def insR (found : List Str) (x : Str) : List Str := found.take (found.filter fun y => strLe y x).length ++ [x] ++ found.drop (found.filter fun y => strLe y x).length
def rise (xs : List Str) : List Str := xs.foldl insR []
theorem insR_perm (found : List Str) (x : Str) : (insR found x).Perm (found ++ [x]) := by
  unfold insR
  generalize (found.filter fun y => strLe y x).length = c
  have h : (found.take c ++ ([x] ++ found.drop c)).Perm (found.take c ++ (found.drop c ++ [x])) := List.Perm.append_left _ List.perm_append_comm
  rw [← List.append_assoc, ← List.append_assoc, List.take_append_drop] at h
  exact h
theorem rise_go : ∀ (xs acc : List Str), (xs.foldl insR acc).Perm (acc ++ xs)
  | [], acc => by rw [List.append_nil]; exact List.Perm.refl _
  | x :: xs, acc => by
    have h := (rise_go xs (insR acc x)).trans ((insR_perm acc x).append_right xs)
    rw [List.append_assoc] at h
    exact h
theorem rise_perm (xs : List Str) : (rise xs).Perm xs := rise_go xs []
theorem rise_snoc (xs : List Str) (x : Str) : rise (xs ++ [x]) = insR (rise xs) x := by
  unfold rise
  rw [List.foldl_append]
  rfl
theorem rise_len (xs : List Str) : (rise xs).length = xs.length := (rise_perm xs).length_eq
theorem ins_strs (c : Nat) (found : List Str) (x : Str) : (found.map D.str).take c ++ [.str x] ++ (found.map D.str).drop c = (found.take c ++ [x] ++ found.drop c).map .str := by
  rw [List.map_append, List.map_append, List.map_take, List.map_drop]
  rfl
theorem len_pre {α : Type} {acc post L : List α} {d : α} (e : acc ++ d :: post = L) : acc.length < L.length := by
  rw [← e, List.length_append, List.length_cons]
  omega
theorem v_rising {xs : List Str} (hl : xs.length ≤ 1000) : f_rising [txs xs] = .ok (txs (rise xs)) := by
  obtain ⟨s', e, x2, x3, rfl⟩ := for_acc (g := fgNm 2) (b := b_rising_1) D.str (fun acc s => ∃ x2 x3, s = [some (txs xs), some (txs (rise acc)), x2, x3]) xs (s := [some (txs xs), some (.lst []), none, none]) ⟨_, _, rfl⟩ (fun acc d post s e ⟨x2, x3, hs⟩ => by
    subst hs
    have hn := len_pre e
    refine ⟨_, rfl, _, insE (k := ((rise acc).filter fun y => strLe y d).length) (ds := (rise acc).map .str) rfl (consE (bltE (consE (lcE (ds := (rise acc).map .str) rfl (by rw [List.length_map, rise_len]; unfold LIM; omega) (lc_filter (g := fgNm 3) (t := fBinT dLe (fVar 3) (fVar 2)) (e := fVar 3) D.str (fun y => strLe y d) D.str (rise acc) fun y hy => ⟨_, rfl, rfl, fun _ => rfl⟩)) rfl) (by show some (D.int _) = _; rw [List.length_map])) (consE rfl rfl)) (by rw [List.length_map, rise_len]; unfold LIM; omega) (by have := List.length_filter_le (fun y => strLe y d) (rise acc); rw [rise_len] at this; unfold LIM; omega), ?_⟩
    rw [ins_strs, rise_snoc]
    exact ⟨_, _, rfl⟩)
  exact runB_rt (seqN (setFE (show 1 < 4 by decide) rfl) (seqN (forE (ds := xs.map .str) rfl e) (retE rfl)))
/-! chains -/
def upN (l : Anc) : Nat → Str → List Str
  | 0, _ => []
  | k + 1, x => match l.lookup x with
    | some a => if a = "clock" then [] else a :: upN l k a
    | none => []
/-- a hanging without rounds -/
structure Acy (l : Anc) (rk : Str → Nat) : Prop where
  nd : (keys l).Nodup
  good : ∀ x ∈ keys l, Good x
  up : ∀ x a, l.lookup x = some a → a = "clock" ∨ (a ∈ keys l ∧ rk a < rk x)
  bd : ∀ x ∈ keys l, rk x < l.length
  len : l.length ≤ 100
theorem up_more {l : Anc} {rk : Str → Nat} (A : Acy l rk) : ∀ (k : Nat) (x : Str), rk x ≤ k → upN l k x = upN l (k + 1) x
  | 0, x, h => by
    show [] = (match l.lookup x with | some a => if a = "clock" then [] else a :: upN l 0 a | none => [])
    cases e : l.lookup x with
    | none => rfl
    | some a =>
      rcases A.up x a e with z | z
      · simp only [z, if_true]
      · omega
  | k + 1, x, h => by
    rw [upN]
    conv => rhs; rw [upN]
    cases e : l.lookup x with
    | none => rfl
    | some a =>
      rcases A.up x a e with z | z
      · simp only [z, if_true]
      · simp only []
        rw [up_more A k a (by omega)]
def chain (l : Anc) (x : Str) : List Str := upN l l.length x
theorem chain_eq {l : Anc} {rk : Str → Nat} (A : Acy l rk) {x : Str} (hx : x ∈ keys l) : chain l x = match l.lookup x with
    | some a => if a = "clock" then [] else a :: chain l a
    | none => [] := by
  have h := A.bd x hx
  have e1 : chain l x = upN l (l.length + 1) x := up_more A _ x (by omega)
  rw [e1, upN]
  rfl
theorem chain_clock {l : Anc} {rk : Str → Nat} (A : Acy l rk) {x : Str} (h : l.lookup x = some "clock") : chain l x = [] := by
  rw [chain_eq A (List.mem_map.mpr ⟨_, look_some h, rfl⟩), h]
  rfl
theorem chain_up {l : Anc} {rk : Str → Nat} (A : Acy l rk) {x a : Str} (h : l.lookup x = some a) (ha : a ≠ "clock") : chain l x = a :: chain l a := by
  rw [chain_eq A (List.mem_map.mpr ⟨_, look_some h, rfl⟩), h]
  simp only [ha, if_false]
/-- induction up the chain -/
theorem Acy.ind {l : Anc} {rk : Str → Nat} (A : Acy l rk) {p : Str → Prop} (h0 : ∀ x, l.lookup x = some "clock" → p x) (h1 : ∀ x a, l.lookup x = some a → a ≠ "clock" → a ∈ keys l → rk a < rk x → p a → p x) : ∀ x ∈ keys l, p x := by
  have key : ∀ (k : Nat) (x : Str), rk x ≤ k → x ∈ keys l → p x := by
    intro k
    induction k with
    | zero =>
      intro x hk hx
      obtain ⟨a, e⟩ := look_mem hx
      rcases A.up x a e with z | z
      · subst z; exact h0 x e
      · omega
    | succ k ih =>
      intro x hk hx
      obtain ⟨a, e⟩ := look_mem hx
      by_cases z : a = "clock"
      · subst z; exact h0 x e
      · rcases A.up x a e with z' | z'
        · exact absurd z' z
        · exact h1 x a e z z'.1 z'.2 (ih a (by omega) z'.1)
  exact fun x hx => key (rk x) x (Nat.le_refl _) hx
theorem chain_rk {l : Anc} {rk : Str → Nat} (A : Acy l rk) : ∀ x ∈ keys l, ∀ y ∈ chain l x, y ∈ keys l ∧ rk y < rk x := by
  refine A.ind (fun x e y hy => ?_) (fun x a e ha hk hr ih y hy => ?_)
  · rw [chain_clock A e] at hy; cases hy
  · rw [chain_up A e ha] at hy
    rcases List.mem_cons.mp hy with z | z
    · subst z; exact ⟨hk, hr⟩
    · have := ih y z; exact ⟨this.1, by omega⟩
theorem chain_nd {l : Anc} {rk : Str → Nat} (A : Acy l rk) : ∀ x ∈ keys l, (chain l x).Nodup := by
  refine A.ind (fun x e => ?_) (fun x a e ha hk hr ih => ?_)
  · rw [chain_clock A e]; exact List.nodup_nil
  · rw [chain_up A e ha, List.nodup_cons]
    exact ⟨fun z => by have := (chain_rk A a hk a z).2; omega, ih⟩
theorem lim_of {n : Nat} (h : n ≤ 1000) : n < LIM := by unfold LIM; omega
end DL
namespace DL
open PySem PySem.Spec PyProof.Rows L2
variable [TabC]
/-! ### what the drawing helpers promise -/
def FSp.rel (R : List D → Nat → (D → Nat → Prop) → Prop) (mn : ∀ ds n Q Q', (∀ d n', Q d n' → Q' d n') → R ds n Q → R ds n Q') : FSp := ⟨fun ds n Q _ => R ds n Q, fun ds n Q Q' _ hq h => mn ds n Q Q' hq h⟩
def NAMES : List Str := ["a", "b", "rice", "fish", "start", "done", "wish", "zz", "station", "clocks", "abcdefgh", "meal", "go", "wait", "cloc", "on"]
/-- each hangs on the clock or on what stands ahead -/
def Hung : List (Str × Str) → List Str → Prop
  | [], _ => True
  | (x, a) :: r, up => (a = "clock" ∨ a ∈ up) ∧ Hung r (up ++ [x])
def sp__law_take : FSp := sp_take (fun _ => 0)
def sp__law_one : FSp := .rel (fun ds n Q => ∃ xs, ds = [.st, .lst xs] ∧ 0 < xs.length ∧ xs.length ≤ 1000 ∧ n < 2 ^ 32 ∧ ∀ x, x ∈ xs → Q x (n + 1)) (fun _ _ _ _ hq ⟨xs, e, h1, h2, h3, q⟩ => ⟨xs, e, h1, h2, h3, fun x hx => hq _ _ (q x hx)⟩)
def sp__law_mix : FSp := .rel (fun ds n Q => ∃ xs : List D, (ds = [.st, .lst xs] ∨ ds = [.st, .tup xs]) ∧ xs.length ≤ 100 ∧ (∀ x ∈ xs, OkN 60 x) ∧ n < 2 ^ 31 ∧ ∀ ys : List D, ys.Perm xs → Q (.lst ys) (n + xs.length)) (fun _ _ _ _ hq ⟨xs, e, h1, h1b, h2, q⟩ => ⟨xs, e, h1, h1b, h2, fun ys p => hq _ _ (q ys p)⟩)
theorem perm_map {α β : Type} (f : α → β) : ∀ {ys zs : List β}, ys.Perm zs → ∀ xs : List α, zs = xs.map f → ∃ us : List α, us.Perm xs ∧ ys = us.map f := by
  intro ys zs h
  induction h with
  | nil => intro xs e; have : xs = [] := by cases xs <;> simp at e ⊢
           subst this; exact ⟨[], List.Perm.refl _, rfl⟩
  | cons x p ih =>
    intro xs e
    cases xs with
    | nil => simp at e
    | cons a xs =>
      rw [List.map_cons, List.cons.injEq] at e
      obtain ⟨us, pu, eu⟩ := ih xs e.2
      exact ⟨a :: us, pu.cons a, by rw [List.map_cons, eu, e.1]⟩
  | swap x y l =>
    intro xs e
    match xs, e with
    | a :: b :: xs, e =>
      simp only [List.map_cons, List.cons.injEq] at e
      refine ⟨b :: a :: xs, List.Perm.swap _ _ _, ?_⟩
      simp only [List.map_cons]
      rw [e.1, e.2.1, e.2.2]
  | trans p1 p2 ih1 ih2 =>
    intro xs e
    obtain ⟨us, pu, eu⟩ := ih2 xs e
    obtain ⟨vs, pv, ev⟩ := ih1 us eu
    exact ⟨vs, pv.trans pu, ev⟩
/-- .. of names -/
theorem mix_strs {n : Nat} {xs : List Str} {Q : D → Nat → Prop} {xq : XQ} (h1 : xs.length ≤ 100) (h2 : ∀ x ∈ xs, sOk x) (h3 : n < 2 ^ 31) (q : ∀ ys : List Str, ys.Perm xs → Q (txs ys) (n + xs.length)) : sp__law_mix.run [.st, txs xs] n Q xq := by
  refine ⟨xs.map .str, .inl rfl, by rw [List.length_map]; exact h1, fun d hd => ?_, h3, fun ys hp => ?_⟩
  · obtain ⟨x, hx, rfl⟩ := List.mem_map.mp hd
    exact .str (h2 x hx)
  · obtain ⟨us, pu, rfl⟩ := perm_map D.str hp xs rfl
    rw [List.length_map]
    exact q us pu
def sp__law_names : FSp := .rel (fun ds n Q => ∃ k : Nat, ds = [.st, .int (k : Int)] ∧ n < 2 ^ 31 ∧ ∀ ys : List Str, ys.Perm NAMES → Q (txs (ys.take k)) (n + 16)) (fun _ _ _ _ hq ⟨k, e, h2, q⟩ => ⟨k, e, h2, fun ys p => hq _ _ (q ys p)⟩)
def sp__law_hung : FSp := .rel (fun ds n Q => ∃ xs : List Str, ds = [.st, txs xs] ∧ xs.length ≤ 100 ∧ xs.Nodup ∧ (∀ x ∈ xs, PyData.strOk x = true) ∧ n < 2 ^ 30 ∧
    ∀ l : List (Str × Str), (l.map (·.1)).Perm xs → Hung l [] → Q (.dic (mapD .str l)) (n + 2 * xs.length)) (fun _ _ _ _ hq ⟨xs, e, h1, h2, h3, h4, q⟩ => ⟨xs, e, h1, h2, h3, h4, fun l p z => hq _ _ (q l p z)⟩)
end DL
namespace DL
open PySem PySem.Spec PyProof.Rows L2
variable [TabC]
abbrev N__law_one : List Str := ["_law_state", "_law_things"]
def B__law_one : SM :=
  (sRet (eBin dIdx (up (fVar 1)) (eCall 2 sp__law_take [] (up (fCons (fVar 0) (fCons (fBlt dLen (fCons (fVar 1) fNil)) fNil))))))
abbrev N__law_mix : List Str := ["_law_state", "_law_things", "_law_left", "_law_found"]
def B__law_mix : SM :=
  (sSeq (upS (fParFF 2 3 (fBlt dList (fCons (fVar 1) fNil)) (fLst fNil))) (sSeq (sWhile (up (fBinT dNe (fVar 2) (fLst fNil))) (sAppPop 3 2 (eCall 2 sp__law_take [] (up (fCons (fVar 0) (fCons (fBlt dLen (fCons (fVar 2) fNil)) fNil)))))) (upS (fRet (fVar 3)))))
abbrev N__law_names : List Str := ["_law_state", "_law_many", "_law_some"]
def B__law_names : SM :=
  (sSeq (upS (fSet 2 (fLst (fCons (fC (.str "a")) (fCons (fC (.str "b")) (fCons (fC (.str "rice")) (fCons (fC (.str "fish")) (fCons (fC (.str "start")) (fCons (fC (.str "done")) (fCons (fC (.str "wish")) (fCons (fC (.str "zz")) fNil))))))))))) (sRet (eSl (eCall 2 sp__law_mix [] (up (fCons (fVar 0) (fCons (fBin dAdd (fVar 2) (fLst (fCons (fC (.str "station")) (fCons (fC (.str "clocks")) (fCons (fC (.str "abcdefgh")) (fCons (fC (.str "meal")) (fCons (fC (.str "go")) (fCons (fC (.str "wait")) (fCons (fC (.str "cloc")) (fCons (fC (.str "on")) fNil)))))))))) fNil)))) (up fNone) (up (fSome (fVar 1))))))
end DL
namespace DL
open PySem PySem.Spec PyProof.Rows L2
variable [TabC]
end DL
namespace DL
open PySem PySem.Spec PyProof.Rows L2
variable [TabC]
end DL
namespace DL
open PySem PySem.Spec PyProof.Rows L2
variable [TabC]
abbrev sp__law_hungF : FSp := sp__law_hung
end DL
namespace MD
open PySem PySem.Spec PyProof.Rows SeqAt
end MD
namespace MD
open PySem PySem.Spec PyProof.Rows SeqAt
/-! a value in d.values() -/
section
variable {P : Program} {w : World} {A : Around} {E : Value → Shared → Prop} {s : Shared} {k : NK} {key : Value} {d view it : Addr} {es : Array DictEntry} {ep : Nat} {ks : List NK}
end
end MD
namespace MD
open L2 PySem PySem.Spec PyProof.Rows SeqAt
/-! d.values(): the view is laid -/
def viewO (a d : Addr) : HO := .ext fun h => h.IsValuesView a d
theorem viewO_ok {P : Program} {w : World} {H : Hp} {h : Heap} {a d : Addr} (e : h.IsValuesView a d) : ObjOk P w H h a (viewO a d) := ⟨e, let ⟨o, ho, _⟩ := e; ⟨o, ho⟩, fun h1 h2 z k => let ⟨o, ho, r⟩ := z; ⟨o, k _ ho, r⟩⟩
section
variable {X : Cx}
theorem dk_rd {P : Program} {w : World} {H : Hp} {h : Heap} {a : Addr} {kvs : List (Key × V)} (ok : HOk P w H h) (e : Rd H a (.dK kvs)) : kvs.length ≤ sizeLine ∧ (a == sysModules) = false ∧ ∃ vs, KV kvs vs ∧ Heap.DictOf (mixKind P w) h a vs := rd_of ok e
def rVals : V → List V → Hp → VK → Prop := fun x xs H Q => ∃ d kvs, x = .ref d ∧ xs = [] ∧ Rd H d (.dK kvs) ∧ ∀ a, H a = none → Q (.ref a) (upd H a (viewO a d))
theorem mt_values : MtR X "dict.values" rVals := fun pins s σ H x xs v us Q I rx rxs ⟨d, kvs, ex, exs, rd, q⟩ => by
  subst ex exs
  cases rx
  cases rxs
  obtain ⟨z, hd, vs, rel, ob, es, ep, ho, hc, hdat, hk, hp, hn⟩ := dk_rd I.hok rd
  refine call_meetsIn PySem.F.slot_dict_values ⟨ob, ho, hc.1⟩ PySem.F.entry_dict_values (PySem.F.args_dict_values_1 _) (meets_dict_values_raw d hd) ⟨⟨es, ep, ob, ho, hc, hdat⟩, ?_⟩
  refine ⟨.ref s.heap.objs.size, _, I.laid (t' := s.toks) (a := s.heap.objs.size) (o := viewO s.heap.objs.size d) (fun b o z => Heap.get?_push_of_some _ z) (Nat.le_refl _) (viewO_ok ⟨_, Heap.get?_push_size _ rfl, rfl, rfl⟩), rfl, q _ (I.hok.fresh (Nat.le_refl _))⟩
def tVals (td : TE) : TE := fun σ H Q => td σ H fun x H1 => rVals x [] H1 Q
theorem pe_vals {e : Expr} {td : TE} {apos cpos : Pos} (he : PE X e td) (hbase : attributeBase e "values" X.env (eval e X.env) = eval e X.env) (hline : (apos.endLine == cpos.line) = true) : PE X (.Call (.Attribute e "values" apos) [] [] cpos) (tVals td) :=
  ⟨fun pins s σ H Q I q => wpAny_Call_method hbase rfl hline PySem.F.plainAttrs_dict PySem.F.slot_dict_values rfl (thn (he.run pins s σ H _ I q) fun u s1 ⟨x, H1, I1, rx, d, kvs, ex, exs, rd, q1⟩ => by
    subst ex
    obtain rfl : u = Value.ref d := rx
    obtain ⟨z, hd, vs, rel, ob, es, ep, ho, hc, hdat, hk, hp, hn⟩ := dk_rd I1.hok rd
    exact ⟨⟨ob, ho, hc.1⟩, (fun a ea => by cases ea; exact ⟨ob, ho, hc.2.1⟩), callWith_method0 (mt_values pins s1 σ H1 (.ref d) [] (.ref d) [] Q I1 rfl .nil ⟨d, kvs, rfl, rfl, rd, q1⟩)⟩)⟩
end
end MD
namespace MD
open L2 PySem PySem.Spec PyProof.Rows
/-! ### a locked mixed dict, key by key -/
/-- what stands there -/
structure LockedAt (s : Shared) (d : Addr) (o : Obj) (ys : List EntV) : Prop where
  sys : (d == sysModules) = false
  here : s.heap.get? d = some o
  exact_ : o.ExactDict
  rows : ∃ (es : Array DictEntry) (ep : Nat), o.data = .dict es ep ∧ es.size = ys.length ∧ ∀ (n : Nat) (y : EntV), ys[n]? = some y → ∃ e : DictEntry, es[n]? = some e ∧ RelV y.2.1 e.key
section
variable {Y : Cx} {ps : List (Addr × Obj)} {τ : L2.St} {G : Hp} {t : Shared} {d : Addr} {o : Obj} {ys : List EntV}
theorem lockedAt (J : Inv Y ps τ G t) (lk : G d = some (.frz o (MixO Y.w d ys))) : LockedAt t d o ys := by
  obtain ⟨at_, inner⟩ := J.hok d _ lk
  obtain ⟨_, sys, xs, ⟨o2, es, ep, at2, ex, rows, list, _⟩, rel⟩ := (show MixP Y.w d ys t.heap from inner.1)
  cases at_.symm.trans at2
  have n1 : es.toList.length = xs.length := by rw [list, List.length_map]
  have n2 := Paired.length rel
  rw [Array.length_toList] at n1
  refine ⟨sys, at_, ex, es, ep, rows, n1.trans n2.symm, fun n y hy => ?_⟩
  obtain ⟨x, hx, r⟩ := paired_get rel hy
  have e : es.toList[n]? = some (entE Y.w x) := by rw [list, List.getElem?_map, hx]; rfl
  exact ⟨_, (Array.getElem?_toList ..).symm.trans e, r.2.1⟩
/-- the walk -/
def Itm (w : World) (d : Addr) (o : Obj) (ys : List EntV) : It where
  go n G := G d = some (.frz o (MixO w d ys)) ∧ n < ys.length
  yld n G v G' := G' = G ∧ ∃ y, ys[n]? = some y ∧ v = y.2.1
  stop n G := G d = some (.frz o (MixO w d ys)) ∧ ys.length ≤ n
theorem walk_keysM {w : World} : Walk (Itm w d o ys) ys.length (fun G => G d = some (.frz o (MixO w d ys))) (fun n G v G' => G' = G ∧ ∃ y, ys[n]? = some y ∧ v = y.2.1) where
  goes _ _ lt q := And.intro q lt
  stops _ q := And.intro q (Nat.le_refl _)
  yields _ _ _ _ _ _ z := z
/-- the iterator moves: nothing else of the heap does -/
theorem moved {it : Addr} {h' : Heap} (J : Inv Y ps τ G t) (own : FpOk Y ps G it) (same : ∀ b u, b ≠ it → t.heap.get? b = some u → h'.get? b = some u) : Inv Y ps τ G { t with heap := h' } :=
  J.turned (t' := t.toks) same own.1 own.2.1 own.2.2.2.1 own.2.2.2.2.1 own.2.2.2.2.2
end
theorem turn_keysM {P : Program} {w : World} {K : PySem.W.Frag} {tg : Expr} {d : Addr} {o : Obj} {es : Array DictEntry} {ep : Nat} {ys : List EntV} (it : Addr) (rows : o.data = .dict es ep) :
    Turn P w K tg (Itm w d o ys) [it] it (fun n h => h.IsKeyIter it d n ys.length ep) := by
  have one : ∀ {b : Addr}, b ∈ [it] → b = it := fun z => List.mem_singleton.mp z
  have me : it ∈ [it] := List.mem_singleton.mpr rfl
  refine ⟨me, fun n h at_ b hb => ?_, fun n h h' at_ kept => ?_, ?_, ?_, fun B n t Q E at_ q => wpAny_pyIter_keyiter at_ q⟩
  · obtain ⟨io, e1, _, e2⟩ := at_
    exact one hb ▸ ⟨io, e1, fun v z => nomatch e2.symm.trans z⟩
  · exact at_.at fun io e => kept it me io e
  · intro Y hP hw hK _ n ps t τ G E J far at_ go
    cases hP; cases hw; cases hK
    obtain ⟨es2, ep2, rows2, count, nth⟩ := (lockedAt J go.1).rows
    cases rows.symm.trans rows2
    have hn := List.getElem?_eq_getElem go.2
    obtain ⟨e, he, rel⟩ := nth n _ hn
    refine next_key_item at_ (lockedAt J go.1).here rows count he fun h' at2 but => ?_
    have J2 := moved J (far it me) fun b u z q => (but.2 b z).trans q
    obtain ⟨io, g1, g2, g3⟩ := at2
    refine ⟨_, rfl, go_of (s := { t with heap := h' }) g1 g2 g3 (by decide) ⟨_, G, J2, rel, ⟨rfl, _, hn, rfl⟩, ⟨io, g1, g2, g3⟩, fun b hb => (far b hb).1⟩⟩
  · intro Y hP hw hK calm n ps t τ G E J far at_ stop
    cases hP; cases hw; cases hK
    obtain ⟨es2, ep2, rows2, count, _⟩ := (lockedAt J stop.1).rows
    cases rows.symm.trans rows2
    exact next_key_end (J.ok.hd calm) at_ (lockedAt J stop.1).here rows count stop.2 fun h' but => And.intro rfl (moved J (far it me) fun b u z q => but b u z q)
/-- for x in d, d locked -/
def iKeysX (X : Cx) (td : TE) : TI := fun σ H R => td σ H fun x H1 => ∃ d o ys, x = .ref d ∧ H1 d = some (.frz o (MixO X.w d ys)) ∧ R (Itm X.w d o ys) H1
theorem pi_keysX {X : Cx} {tg e : Expr} {td : TE} (he : PE X e td) : PI X tg e (iKeysX X td) := PI.mk fun ps t τ G R J q =>
  thn (he.run ps t τ G _ J q) fun u t1 ⟨x, G1, J1, rel, d, o, ys, ex, lk, r⟩ => by
    cases ex
    cases rel
    have L := lockedAt J1 lk
    obtain ⟨es, ep, rows, count, _⟩ := L.rows
    refine iter_keys L.sys L.here L.exact_ rows (pi_one (tk := t1.toks) J1 _ (turn_keysM _ rows) ?_ r)
    rw [← count]
    exact ⟨_, Heap.get?_push_size _ rfl, rfl, rfl⟩
end MD
namespace MD
open L2 PySem PySem.Spec PyProof.Rows
/-! ### {k: v for x in ..}, keys of all sorts: the new dict is a mixed one -/
section
variable {Y : Cx} {ps : List (Addr × Obj)} {τ : L2.St} {G G' : Hp} {t : Shared} {E : Value → Shared → Prop}
end
section
variable {X : Cx} {kx vx tg iter : Expr} {scope : Scope} {own : List (Str × Nat)} {pos : Pos} {wi : TI} {g : TG} {tk tv : TE}
end
end MD
namespace MD
open PySem PySem.Spec PyProof.Rows L2
section
variable {K : PySem.W.Frag} {H H' : Hp}
end
section
variable {X : Cx} {x v : Str} {i j : Nat} {c : Int} {scope : Scope} {pos p1 p2 p3 p4 : Pos} {jj : Option Str}
end
end MD
namespace DL
open PySem PySem.Spec PyProof.Rows L2
variable [TabC]
section
variable {X : Cx} {E : XK} {O : List Nat} {x v : Str} {i j : Nat} {c : Int} {scope : Scope} {pos p1 p2 p3 p4 : Pos} {jj}
end
end DL
namespace MD
open PySem PySem.Spec PyProof.Rows L2
section
variable {prog : Program} {w : World} {A : Around} {E : Value → Shared → Prop} {s : Shared} {d : Addr} {xs : List Ent}
theorem dic_len (hs : (d == sysModules) = false) (hm : Dic w s.heap d xs) : MeetsIn prog w (Builtin.«dict.__len__» ⟨[.ref d], []⟩) (fun _ R s => Dic w s.heap d xs ∧ R (.ok (.ret (.int xs.length s.toks))) { s with toks := s.toks + 1 }) :=
  .of_wp fun A R s ⟨hm, h⟩ => by
    obtain ⟨o, es, ep, ho, hc, hdt, he, _⟩ := hm
    have l1 : es.size = xs.length := by rw [← Array.length_toList, he, List.length_map]
    show wpAny _ _ (dictSize d >>= _) _ _ s
    unfold dictSize
    refine wpAny_bind (wpAny_bind (wpAny_dictEntries ho hdt (wpAny_pure ?_)))
    show wpAny _ _ (Builtin.Dict.pendingCount d >>= _) _ _ s
    refine wpAny_bind (wpAny_pendingCount_other hs ?_)
    refine wpAny_ret_mkInt ?_
    rw [Nat.add_zero, l1]
    exact h
theorem call_len_dic {Q : Value → Shared → Prop} (hs : (d == sysModules) = false) (hm : Dic w s.heap d xs) (hfit : (xs.length : Int) < 2 ^ 63) (h : Q (.int xs.length (s.toks + 1)) { s with toks := s.toks + 1 + 1 }) : wpAny (model prog w) A (call (.builtin "len") [.ref d]) Q E s :=
  call_len_slot (n := xs.length) (typ hm) F.slot_dict_len (fun Q' hq => call_meetsIn F.slot_dict_len (typ hm) F.entry_dict_len (F.args_dict_len_1 _) (dic_len hs hm) ⟨hm, hq⟩) (by omega) (by omega) h
end
def rLenM (X : Cx) : List V → Hp → VK → Prop := fun vs H Q => ∃ (p : Addr) (ys : List EntV), vs = [.ref p] ∧ Rd H p (MixO X.w p ys) ∧ Q (.int (ys.length : Nat)) H
theorem call_lenM {X : Cx} : CallR X (.builtin "len") (rLenM X) := by
  intro pins s σ H vs us Q I r h
  obtain ⟨p, ys, rfl, hp, q⟩ := h
  obtain ⟨u, rfl, rx⟩ := vals1 r
  obtain rfl : u = .ref p := rx
  obtain ⟨z, hs, xs, dd, pr⟩ := mix_rd I hp
  have hl : ys.length = xs.length := Paired.length pr
  refine call_len_dic hs dd (by rw [← hl]; rw [sizeLine_eq] at z; omega) ?_
  rw [← hl]
  exact ⟨.int (ys.length : Nat), H, I.tok _, ⟨_, rfl⟩, q⟩
end MD
namespace DL
open PySem PySem.Spec PyProof.Rows L2
variable [TabC]
def dLenM : List D → Option D
  | [.dmx kvs] => some (.int kvs.length)
  | ds => dLen ds
theorem cd_lenM {X : Cx} (hw : X.w = TabC.w) : CallD X (.builtin "len") dLenM := by
  obtain ⟨r0, h0, k0⟩ := cd_len (X := X)
  refine ⟨_, CallR.or (MD.call_lenM (X := X)) h0, fun aS H A n ds d vs Q c rl e w => ?_⟩
  unfold dLenM at e
  split at e
  · cases e
    obtain ⟨v, e1, r⟩ := rl_one rl
    obtain ⟨p, ys, e2, _, h1, q⟩ := repB_dmx r
    subst e1 e2
    refine .inl ⟨p, ys, rfl, by rw [hw]; exact h1, ?_⟩
    rw [q.len]
    exact w _ _ KpS.refl c.st rep_int
  · exact .inr (k0 aS H A n _ d vs Q c rl e w)
end DL
namespace MD
open PySem PySem.Spec PyProof.Rows L2
end MD
namespace DL
open PySem PySem.Spec PyProof.Rows L2
variable [TabC]
section
variable {X : Cx} {E : XK} {O : List Nat} {k v : Expr} {mk mv : EM D} {pos : Pos}
end
end DL
namespace DL
open PySem PySem.Spec PyProof.Rows L2
variable [TabC]
/-! a + b of lists, as a new list -/
section
variable {X : Cx} {E : XK} {O : List Nat} {a b : Expr} {ma mb : EM D} {pos : Pos}
end
end DL
namespace DL
open PySem PySem.Spec PyProof.Rows L2
variable [TabC]
/-! max, min of two numbers or of a list of numbers; sorted of a list of numbers -/
section
variable {X : Cx}
end
end DL
namespace DL
open PySem PySem.Spec PyProof.Rows L2
variable [TabC]
end DL
namespace DL
open PySem PySem.Spec PyProof.Rows L2
variable [TabC]
abbrev N__law_rising : List Str := ["_law_things", "_law_found", "_law_thing", "_law_x"]
def b__law_rising_1 : FS := (fIns 1 (fCons (fBlt dLen (fCons (fLc (fOwnL 1) ([3] ++ [1]) (fgNm 3) (fBinT dLe (fVar 3) (fVar 2)) (fVar 3)) fNil)) (fCons (fVar 2) fNil)))
def B__law_rising : FS :=
  (fSeq (fSetF 1 (fLst fNil)) (fSeq (fFor (fIter (fVar 0)) (fgNm 2) (b__law_rising_1)) (fRet (fVar 1))))
def f__law_rising : FFn := runB N__law_rising B__law_rising
end DL
namespace DL
open PySem PySem.Spec PyProof.Rows L2
variable [TabC]
/-! ### sorted by the names -/
def get {α : Type} [Inhabited α] (l : List (Str × α)) (x : Str) : α := (l.lookup x).getD default
def sortK {α : Type} [Inhabited α] (l : List (Str × α)) : List (Str × α) := (rise (keys l)).map fun x => (x, get l x)
section
variable {α β : Type} [Inhabited α] [Inhabited β]
theorem get_of {l : List (Str × α)} {x : Str} {a : α} (h : l.lookup x = some a) : get l x = a := by
  unfold get
  rw [h]
  rfl
theorem look_get {l : List (Str × α)} {x : Str} (h : x ∈ keys l) : l.lookup x = some (get l x) := by
  obtain ⟨a, e⟩ := look_mem h
  rw [get_of e, e]
theorem mem_rise {xs : List Str} {x : Str} : x ∈ rise xs ↔ x ∈ xs := (rise_perm xs).mem_iff
/-- the values turned -/
def mapV (f : α → β) (l : List (Str × α)) : List (Str × β) := l.map fun p => (p.1, f p.2)
theorem keys_mapV (f : α → β) (l : List (Str × α)) : keys (mapV f l) = keys l := by
  unfold mapV keys
  rw [List.map_map]
  rfl
end
/-! ### small answers -/
/-! ### rounds -/
/-! ### books -/
def anc (rs : Row) : Anc := mapV (·.1) rs
structure BookOk (rs : Row) (rk : Str → Nat) : Prop where
  acy : Acy (anc rs) rk
  wait : ∀ r ∈ rs, 0 ≤ r.2.2
  len : rs.length ≤ 15
theorem keys_anc (rs : Row) : keys (anc rs) = keys rs := keys_mapV _ _
theorem BookOk.nd {rs : Row} {rk : Str → Nat} (B : BookOk rs rk) : (keys rs).Nodup := by
  have := B.acy.nd
  rw [keys_anc] at this
  exact this
def addN (l : Row) : Nat → Str → Int
  | 0, _ => 0
  | k + 1, x => if (get l x).1 = "clock" then (get l x).2 else (get l x).2 + addN l k (get l x).1
def added (l : Row) (x : Str) : Int := addN l l.length x
end DL
namespace DL
open PySem PySem.Spec PyProof.Rows L2
variable [TabC]
/-! ### moments and wishes -/
/-- a row of things, as a list or a tuple -/
def rowD (tp : Bool) (ds : List D) : D := if tp then .tup ds else .lst ds
theorem enumE {a : FM D} {s : Ev} {d : D} {ds : List D} (h : a s = .ok d) (h2 : dSeq d = some ds) : fEnum a s = .ok (pairsD 0 ds) := by
  unfold fEnum
  rw [h]
  show (ofO (dSeq d)).bind _ = _
  rw [h2]
  rfl
/-! ### meals -/
/-! ### ways, what is not shared -/
def wayM (l : Anc) : Mo → List Str
  | .clock => []
  | .start x => chain l x
  | .done x => chain l x ++ [x]
def usum (f : Str → Int) (xs ys : List Str) : Int := ((xs.filter fun x => !decide (x ∈ ys)).map f).sum
def uns (bs : Dis) (l : Anc) (one other : Mo) : Int := usum (fun x => (get bs x).2) (wayM l other) (wayM l one) - usum (fun x => (get bs x).1) (wayM l one) (wayM l other)
theorem way_mem {l : Anc} {rk : Str → Nat} (A : Acy l rk) {m : Mo} (h : m.ok (keys l)) : ∀ y ∈ wayM l m, y ∈ keys l := by
  cases m with
  | clock => intro y hy; cases hy
  | start x => exact fun y hy => (chain_rk A x h y hy).1
  | done x =>
    intro y hy
    rcases List.mem_append.mp hy with z | z
    · exact (chain_rk A x h y z).1
    · rw [List.mem_singleton.mp z]; exact h
/-! ### how far moments lie apart -/
def wsum (rs : Row) : Mo → Int
  | .clock => 0
  | .start x => added rs x
  | .done x => added rs x
def behd (bs : Dis) (rs : Row) (one other : Mo) : Int := wsum rs other - wsum rs one + uns bs (anc rs) one other
theorem Mo.ok_anc {rs : Row} {m : Mo} (h : m.ok (keys rs)) : m.ok (keys (anc rs)) := by rw [keys_anc]; exact h
/-! ### slacks, most_behind -/
end DL
namespace DL
open PySem PySem.Spec PyProof.Rows L2
variable [TabC]
/-! ### the same thing is the same -/
def Pl : Nat → D → Prop
  | _, .int _ => True
  | _, .bl _ => True
  | _, .non => True
  | _, .str x => sOk x
  | _, .dic kvs => kvs = []
  | k + 1, .lst xs => xs.length ≤ 1000 ∧ ∀ x ∈ xs, Pl k x
  | k + 1, .tup xs => xs.length ≤ 1000 ∧ ∀ x ∈ xs, Pl k x
  | _, _ => False
theorem zip_self (xs : List D) : zipD xs xs = xs.map fun x => .tup [x, x] := by
  induction xs with
  | nil => rfl
  | cons x xs ih => rw [zipD, ih]; rfl
theorem bools_true {α : Type} : ∀ xs : List α, boolsD (xs.map fun _ => .bl true) = some (xs.map fun _ => true)
  | [] => rfl
  | x :: xs => by
    rw [List.map_cons]
    show (boolsD _).map _ = _
    rw [bools_true xs]
    rfl
theorem all_true {α : Type} (xs : List α) : dAll [.lst (xs.map fun _ => .bl true)] = some (.bl true) := by
  show (boolsD _).map _ = _
  rw [bools_true]
  show some (D.bl ((xs.map fun _ => true).all id)) = _
  rw [List.all_map]
  simp
theorem v_same : ∀ (k : Nat) (d : D), Pl k d → r__law_same (k + 1) [d, d] = .ok (.bl true)
  | k, .int i, _ => by
    rw [r__law_same]
    exact runB_rt (seqN (ifsF rfl rfl) (seqR (ifsT rfl (retE (andT rfl (andT rfl (binE rfl rfl (show dEq (.int i) (.int i) = some (.bl true) by rw [dEq_int]; simp))))))))
  | k, .bl i, _ => by
    rw [r__law_same]
    exact runB_rt (seqN (ifsF rfl rfl) (seqR (ifsT rfl (retE (andT rfl (andT rfl (binE rfl rfl (by cases i <;> rfl))))))))
  | k, .non, _ => by
    rw [r__law_same]
    exact runB_rt (seqN (ifsF rfl rfl) (seqN (ifsF rfl rfl) (retE (andT rfl (binE rfl rfl rfl)))))
  | k, .dic kvs, h => by
    have h : kvs = [] := by cases k <;> exact h
    subst h
    rw [r__law_same]
    exact runB_rt (seqN (ifsF rfl rfl) (seqN (ifsF rfl rfl) (retE (andT rfl (binE rfl rfl rfl)))))
  | k, .str x, h => by
    have h : sOk x := by cases k <;> exact h
    rw [r__law_same]
    exact runB_rt (seqN (ifsF rfl rfl) (seqN (ifsF rfl rfl) (retE (andT rfl (binE rfl rfl (show dEq (.str x) (.str x) = some (.bl true) by rw [dEq_str h h]; simp))))))
  | k + 1, .lst xs, h => by
    rw [r__law_same]
    refine runB_rt (seqR (ifsT rfl (seqN (ifsF rfl rfl) (retE (andT (binE rfl rfl (show dEq (.int xs.length) (.int xs.length) = some (.bl true) by rw [dEq_int]; simp)) (bltE (consE (lcE (ds := zipD xs xs) rfl ?_ ?_) rfl) (all_true xs)))))))
    · rw [zip_self, List.length_map]; have := h.1; unfold LIM; omega
    · rw [zip_self]
      exact lc_map (fun x => D.tup [x, x]) (fun _ => .bl true) xs fun x hx => ⟨_, rfl, callE (ds := [x, x]) rfl rfl (v_same k x (h.2 x hx))⟩
  | k + 1, .tup xs, h => by
    rw [r__law_same]
    refine runB_rt (seqR (ifsT rfl (seqN (ifsF rfl rfl) (retE (andT (binE rfl rfl (show dEq (.int xs.length) (.int xs.length) = some (.bl true) by rw [dEq_int]; simp)) (bltE (consE (lcE (ds := zipD xs xs) rfl ?_ ?_) rfl) (all_true xs)))))))
    · rw [zip_self, List.length_map]; have := h.1; unfold LIM; omega
    · rw [zip_self]
      exact lc_map (fun x => D.tup [x, x]) (fun _ => .bl true) xs fun x hx => ⟨_, rfl, callE (ds := [x, x]) rfl rfl (v_same k x (h.2 x hx))⟩
  | 0, .lst _, h => h.elim
  | 0, .tup _, h => h.elim
  | 0, .raw _, h => h.elim
  | 0, .st, h => h.elim
  | 0, .dmx _, h => h.elim
  | _ + 1, .dmx _, h => h.elim
  | 0, .obj _ _, h => h.elim
  | 0, .exc _ _, h => h.elim
  | _ + 1, .raw _, h => h.elim
  | _ + 1, .st, h => h.elim
  | _ + 1, .obj _ _, h => h.elim
  | _ + 1, .exc _ _, h => h.elim
end DL
namespace DL
open PySem PySem.Spec PyProof.Rows L2
variable [TabC]
abbrev N_Hanging___init__ : List Str := ["self", "rows", "name", "anchor"]
def b_Hanging___init___1 : FS := (fIfS (fOrT (fNotT (fVal (fCall 1 f_is_name [] (fCons (fVar 2) fNil)))) (fNotT (fVal (fCall 2 f_is_anchor [] (fCons (fVar 3) (fCons (fVar 1) fNil)))))) (fRaise "BadRow" ["name"] (fCons (fVar 2) fNil)) fNilS)
def B_Hanging___init__ : FS :=
  (fSeq (fForD (fun s => (s[1]?).join) itemsD (fgTp (fgsCons (fgNm 2) (fgsCons (fgNm 3) fgsNil))) (b_Hanging___init___1)) (fSeq (fDrop (fCall 1 f_check_rounds [] (fCons (fVar 1) fNil))) (fFldS 0 "Hanging" "anchors" (fDc (fIter (fCall 1 f_rising [] (fCons (fBlt dList (fCons (fVar 1) fNil)) fNil))) [2] (fgNm 2) fYes (fVar 2) (fBin dIdx (fVar 1) (fVar 2))))))
def f_Hanging___init__ : FFn := runI "Hanging" N_Hanging___init__ B_Hanging___init__
end DL
namespace DL
open PySem PySem.Spec PyProof.Rows L2
variable [TabC]
/-! ### hangings -/
/-! ### unlike dishes -/
/-! ### how much later -/
def wayO (r1 r2 : Row) (x : Str) : List Str := (chain (anc r1) x).filter fun y => !decide (y ∈ chain (anc r2) x)
theorem way_in {r1 r2 : Row} {k1 : Str → Nat} (B1 : BookOk r1 k1) {x : Str} (h1 : x ∈ keys r1) : ∀ y ∈ wayO r1 r2 x, y ∈ keys r1 := fun y hy => by
  have := (chain_rk B1.acy x (by rw [keys_anc]; exact h1) y (List.mem_filter.mp hy).1).1
  rw [keys_anc] at this
  exact this
end DL
namespace DL
open PySem PySem.Spec PyProof.Rows L2
variable [TabC]
/-! ### the drawing helpers keep their promises -/
theorem upE {α : Type} {f : FM α} {xq : XQ} {s : Ev} {n : Nat} {Q : α → Nat → Prop} {a : α} (h : f s = .ok a) (q : Q a n) : up f xq s n Q := by
  unfold up
  rw [h]
  exact q
theorem upSN {f : FS} {xq : XQ} {de : DE} {s s' : Ev} {n : Nat} (h : f s = .nx s') (q : de.nx s' n) : upS f xq de s n := by
  unfold upS
  rw [h]
  exact q
theorem seqU {f : FS} {r : SM} {xq : XQ} {de : DE} {s s' : Ev} {n : Nat} (h : f s = .nx s') (q : r xq de s' n) : sSeq (upS f) r xq de s n := by
  unfold sSeq upS
  rw [h]
  exact q
theorem seqM {m r : SM} {xq : XQ} {de : DE} {s : Ev} {n : Nat} (h : m xq { de with nx := fun s' n' => r xq de s' n' } s n) : sSeq m r xq de s n := h
section
variable {xq : XQ} {s : Ev} {n : Nat} {Q : D → Nat → Prop} {QL : List D → Nat → Prop} {a b : FM D} {l : FM (List D)} {m m2 : EM D} {ml : EM (List D)} {d d' : D}
theorem consU (h : a s = .ok d) (q : ml xq s n fun ds n' => QL (d :: ds) n') : eCons (up a) ml xq s n QL := by
  unfold eCons up
  rw [h]
  exact q
theorem consM (h : m xq s n fun d n1 => ml xq s n1 fun ds n2 => QL (d :: ds) n2) : eCons m ml xq s n QL := h
theorem nilU (q : QL [] n) : up fNil xq s n QL := q
theorem callM {len : Nat} {sp : FSp} {dds ds : List D} (h : l s = .ok ds) (hl : (ds ++ dds).length = len) (q : sp.run (ds ++ dds) n Q xq) : eCall len sp dds (up l) xq s n Q := by
  unfold eCall up
  rw [h]
  exact ⟨hl, q⟩
theorem callMM {len : Nat} {sp : FSp} {dds : List D} (q : ml xq s n fun ds n1 => (ds ++ dds).length = len ∧ sp.run (ds ++ dds) n1 Q xq) : eCall len sp dds ml xq s n Q := q
theorem binUM {f : D → D → Option D} (h : a s = .ok d) (q : m xq s n fun y n2 => ∃ z, f d y = some z ∧ Q z n2) : eBin f (up a) m xq s n Q := by
  unfold eBin up
  rw [h]
  exact q
theorem setM {i : Nat} {de : DE} (h : m xq s n fun d n' => de.nx (s.set i (some d)) n') : sSet i m xq de s n := h
theorem forU {i : FM (List D)} {g : DG} {mb : SM} {de : DE} {ds : List D} (h : i s = .ok ds) (q : sForL g mb xq de ds s n) : sFor (up i) g mb xq de s n := by
  unfold sFor up
  rw [h]
  exact q
theorem forM {mi : EM (List D)} {g : DG} {mb : SM} {de : DE} (q : mi xq s n fun ds n1 => sForL g mb xq de ds s n1) : sFor mi g mb xq de s n := q
theorem dputM {i : Nat} {mk : EM D} {de : DE} (q : m xq s n fun d n1 => mk xq s n1 fun k n2 => ∃ kk kvs, keyD k = some kk ∧ s[i]? = some (some (.dic kvs)) ∧ kvs.length < LIM ∧ de.nx (s.set i (some (.dic (putD kvs kk d)))) n2) : sDput i mk m xq de s n := q
end
theorem sfor_go {α : Type} {g : FG} {mb : SM} {xq : XQ} {de : DE} (f : α → D) (I : List α → Ev → Nat → Prop) (L : List α) (hd : ∀ s' n', I L s' n' → de.nx s' n')
    (st : ∀ acc d post s n (de' : DE), acc ++ d :: post = L → I acc s n → (∀ s2 n2, I (acc ++ [d]) s2 n2 → de'.nx s2 n2) → ∃ s1, g (f d) s = some s1 ∧ mb xq de' s1 n) : ∀ (ds acc : List α) (s : Ev) (n : Nat), acc ++ ds = L → I acc s n → sForL (upG g) mb xq de (ds.map f) s n
  | [], acc, s, n, e, h => hd s n (by rw [List.append_nil] at e; rw [← e]; exact h)
  | d :: ds, acc, s, n, e, h => by
    obtain ⟨s1, e1, w⟩ := st acc d ds s n { de with nx := fun s2 n2 => sForL (upG g) mb xq de (ds.map f) s2 n2, ct := fun s2 n2 => sForL (upG g) mb xq de (ds.map f) s2 n2, bk := de.nx } e h fun s2 n2 h2 => sfor_go f I L hd st ds (acc ++ [d]) s2 n2 (by rw [List.append_assoc]; exact e) h2
    exact ⟨s1, e1, w⟩
theorem sfor_acc {α : Type} {g : FG} {mb : SM} {xq : XQ} {de : DE} (f : α → D) (I : List α → Ev → Nat → Prop) (L : List α) {s : Ev} {n : Nat} (h0 : I [] s n) (hd : ∀ s' n', I L s' n' → de.nx s' n')
    (st : ∀ acc d post s n (de' : DE), acc ++ d :: post = L → I acc s n → (∀ s2 n2, I (acc ++ [d]) s2 n2 → de'.nx s2 n2) → ∃ s1, g (f d) s = some s1 ∧ mb xq de' s1 n) : sForL (upG g) mb xq de (L.map f) s n := sfor_go f I L hd st L [] s n rfl h0
theorem sfore_go {α : Type} {g : FG} {mb : SM} {xq : XQ} {de : DE} (f : α → D) (I : List α → Ev → Nat → Prop) (L : List α) (hd : ∀ s' n', I L s' n' → de.nx s' n')
    (st : ∀ acc d post s n (de' : DE), acc ++ d :: post = L → I acc s n → (∀ s2 n2, I (acc ++ [d]) s2 n2 → de'.nx s2 n2) → ∃ s1, g (.tup [.int (acc.length : Nat), f d]) s = some s1 ∧ mb xq de' s1 n) : ∀ (ds acc : List α) (s : Ev) (n : Nat), acc ++ ds = L → I acc s n → sForL (upG g) mb xq de (pairsD acc.length (ds.map f)) s n
  | [], acc, s, n, e, h => hd s n (by rw [List.append_nil] at e; rw [← e]; exact h)
  | d :: ds, acc, s, n, e, h => by
    rw [List.map_cons, pairsD]
    obtain ⟨s1, e1, w⟩ := st acc d ds s n { de with nx := fun s2 n2 => sForL (upG g) mb xq de (pairsD (acc.length + 1) (ds.map f)) s2 n2, ct := fun s2 n2 => sForL (upG g) mb xq de (pairsD (acc.length + 1) (ds.map f)) s2 n2, bk := de.nx } e h fun s2 n2 h2 => by
      have := sfore_go f I L hd st ds (acc ++ [d]) s2 n2 (by rw [List.append_assoc]; exact e) h2
      rw [List.length_append, List.length_singleton] at this
      exact this
    exact ⟨s1, e1, w⟩
theorem sfor_enum {α : Type} {g : FG} {mb : SM} {xq : XQ} {de : DE} (f : α → D) (I : List α → Ev → Nat → Prop) (L : List α) {s : Ev} {n : Nat} (h0 : I [] s n) (hd : ∀ s' n', I L s' n' → de.nx s' n')
    (st : ∀ acc d post s n (de' : DE), acc ++ d :: post = L → I acc s n → (∀ s2 n2, I (acc ++ [d]) s2 n2 → de'.nx s2 n2) → ∃ s1, g (.tup [.int (acc.length : Nat), f d]) s = some s1 ∧ mb xq de' s1 n) : sForL (upG g) mb xq de (pairsD 0 (L.map f)) s n := sfore_go f I L hd st L [] s n rfl h0
theorem nat_of {r : Int} (h : 0 ≤ r) : ∃ j : Nat, r = j := ⟨r.toNat, by omega⟩
theorem M__law_one : Meets 2 N__law_one sp__law_one B__law_one := by
  intro ds n Q xq hl h
  obtain ⟨xs, rfl, h1, h2, h3, q⟩ := h
  refine ⟨rfl, (xs.length : Int), rfl, by omega, by omega, h3, fun r r0 r1 => ?_⟩
  obtain ⟨j, rfl⟩ := nat_of r0
  have hj : j < xs.length := by omega
  exact ⟨xs[j], by rw [dIdx_lst]; simp [hj], q _ (List.getElem_mem hj)⟩
theorem erase_perm {α : Type} : ∀ (j : Nat) (l : List α) (h : j < l.length), (l[j] :: l.eraseIdx j).Perm l
  | _, [], h => by simp at h
  | 0, x :: xs, h => List.Perm.refl _
  | j + 1, x :: xs, h => by
    have h' : j < xs.length := by simpa using h
    show (xs[j] :: x :: xs.eraseIdx j).Perm (x :: xs)
    exact (List.Perm.swap x xs[j] _).trans (List.Perm.cons x (erase_perm j xs h'))
theorem erase_len {α : Type} : ∀ (j : Nat) (l : List α), j < l.length → (l.eraseIdx j).length + 1 = l.length
  | _, [], h => by simp at h
  | 0, x :: xs, h => rfl
  | j + 1, x :: xs, h => by
    have h' : j < xs.length := by simpa using h
    show (xs.eraseIdx j).length + 1 + 1 = xs.length + 1
    rw [erase_len j xs h']
theorem pyEq_nil (xs : List D) : pyEq (.lst xs) (.lst []) = xs.isEmpty := by cases xs <;> rfl
theorem nil_ok : okD (.lst []) = true := (OkN.lst (k := 0) (xs := []) (fun _ h => nomatch h)).ok (by decide)
theorem M__law_mix : Meets 2 N__law_mix sp__law_mix B__law_mix := by
  intro ds n Q xq hl h
  obtain ⟨xs, hds, h1, hok, h2, q⟩ := h
  have first : ∀ T, ds = [.st, T] → (T = .lst xs ∨ T = .tup xs) → B__law_mix xq { nx := fun _ n' => Q .non n', rt := Q } (startD N__law_mix ds) n := by
    intro T ed hT
    subst ed
    have e0 : fBlt dList (fCons (fVar 1) fNil) (startD N__law_mix [.st, T]) = .ok (.lst xs) := by
      rcases hT with z | z <;> subst z <;> exact bltE rfl rfl
    refine upSN (parFFE (show 2 < 4 by decide) (show 3 < 4 by decide) e0 rfl) ⟨xs.length + 1, ?_⟩
    have key : ∀ (k : Nat) (left found : List D) (n : Nat), left.length = k → (found ++ left).Perm xs → n + k < 2 ^ 32 → (∀ ys : List D, ys.Perm xs → Q (.lst ys) (n + k)) →
        sWhileN (up (fBinT dNe (fVar 2) (fLst fNil))) (sAppPop 3 2 (eCall 2 sp__law_take [] (up (fCons (fVar 0) (fCons (fBlt dLen (fCons (fVar 2) fNil)) fNil))))) xq { nx := fun s' n' => upS (fRet (fVar 3)) xq { nx := fun _ n' => Q .non n', rt := Q } s' n', rt := Q } (k + 1)
          [some .st, some T, some (.lst left), some (.lst found)] n := by
      intro k
      induction k with
      | zero =>
        intro left found n hk hp hn q
        have e : left = [] := List.eq_nil_of_length_eq_zero hk
        subst e
        rw [List.append_nil] at hp
        refine upE (a := false) (binTE rfl rfl (dNe_ok nil_ok nil_ok)) ?_
        exact q found hp
      | succ k ih =>
        intro left found n hk hp hn q
        have hlen : found.length + left.length = xs.length := by rw [← List.length_append]; exact hp.length_eq
        have hle : ∀ x ∈ left, OkN 60 x := fun x hx => hok x (hp.subset (List.mem_append_right _ hx))
        have ht : dNe (.lst left) (.lst []) = some (.bl true) := by
          rw [dNe_ok ((OkN.lst hle).ok (by decide)) nil_ok, pyEq_nil]
          cases left with
          | nil => cases hk
          | cons x l => rfl
        refine upE (a := true) (binTE rfl rfl ht) ?_
        refine ⟨found, left, rfl, rfl, rfl, (left.length : Int), rfl, by omega, by omega, by omega, fun r r0 r1 => ?_⟩
        obtain ⟨j, rfl⟩ := nat_of r0
        have hj : j < left.length := by omega
        refine ⟨j, left[j], rfl, by simp [hj], by unfold LIM; omega, by unfold LIM; omega, ?_⟩
        have hp2 : (found ++ [left[j]] ++ left.eraseIdx j).Perm xs := by
          refine List.Perm.trans ?_ hp
          rw [List.append_assoc]
          exact List.Perm.append_left _ (erase_perm j left hj)
        refine ih (left.eraseIdx j) (found ++ [left[j]]) (n + 1) (by have := erase_len j left hj; omega) hp2 (by omega) (fun ys hy => ?_)
        have := q ys hy
        rw [show n + (k + 1) = n + 1 + k by omega] at this
        exact this
    exact key xs.length xs [] n rfl (List.Perm.refl _) (by omega) q
  rcases hds with z | z
  · exact first _ z (.inl rfl)
  · exact first _ z (.inr rfl)
theorem names_ok : ∀ x ∈ NAMES, isGood x = true := by decide +kernel
theorem names_good {x : Str} (h : x ∈ NAMES) : Good x := good_of (names_ok x h)
theorem cut_to (xs : List D) (k : Nat) : cutL xs none (some (k : Int)) = xs.take k := by
  unfold cutL
  rw [HT.sIx_none, HT.sIx_nat, List.drop_zero, Nat.sub_zero]
  rcases Nat.le_total k xs.length with h | h
  · rw [Nat.min_eq_left h]
  · rw [Nat.min_eq_right h, List.take_length, List.take_of_length_le h]
theorem M__law_names : Meets 2 N__law_names sp__law_names B__law_names := by
  intro ds n Q xq hl h
  obtain ⟨k, rfl, h2, q⟩ := h
  unfold B__law_names
  refine seqU (s' := [some .st, some (.int k), some (txs (NAMES.take 8))]) rfl ⟨rfl, ?_⟩
  refine mix_strs (xs := NAMES) (by decide) (fun x hx => (names_good hx).ok) h2 fun ys p => ?_
  refine ⟨_, rfl, ?_⟩
  have e : cutL (ys.map D.str) none (some (k : Int)) = (ys.take k).map .str := by rw [cut_to, List.map_take]
  rw [e]
  exact q ys p
theorem nd_pre {L acc post : List Str} {d : Str} (hn : L.Nodup) (e : acc ++ d :: post = L) : d ∉ acc := fun z => by
  rw [← e] at hn
  exact (List.nodup_append.mp hn).2.2 _ z _ List.mem_cons_self rfl
end DL
namespace DL
open PySem PySem.Spec PyProof.Rows L2
variable [TabC]
theorem take_run {n : Nat} {k : Int} {Q : D → Nat → Prop} {xq : XQ} (h0 : 0 < k) (h1 : k < 2 ^ 32) (h2 : n < 2 ^ 32) (q : ∀ r : Int, 0 ≤ r → r < k → Q (.int r) (n + 1)) : sp__law_take.run [.st, .int k] n Q xq := ⟨k, rfl, h0, h1, h2, q⟩
theorem one_run {n : Nat} {xs : List D} {Q : D → Nat → Prop} {xq : XQ} (h0 : 0 < xs.length) (h1 : xs.length ≤ 1000) (h2 : n < 2 ^ 32) (q : ∀ x, x ∈ xs → Q x (n + 1)) : sp__law_one.run [.st, .lst xs] n Q xq := ⟨xs, rfl, h0, h1, h2, q⟩
theorem one_strs {n : Nat} {xs : List Str} {Q : D → Nat → Prop} {xq : XQ} (h0 : 0 < xs.length) (h1 : xs.length ≤ 1000) (h2 : n < 2 ^ 32) (q : ∀ x, x ∈ xs → Q (.str x) (n + 1)) : sp__law_one.run [.st, txs xs] n Q xq := by
  refine ⟨_, rfl, by rw [List.length_map]; exact h0, by rw [List.length_map]; exact h1, h2, fun x hx => ?_⟩
  obtain ⟨y, hy, rfl⟩ := List.mem_map.mp hx
  exact q y hy
/-! ### hangings, waits -/
theorem hung_snoc : ∀ {l : Anc} {up : List Str} {x a : Str}, Hung l up → (a = "clock" ∨ a ∈ up ++ keys l) → Hung (l ++ [(x, a)]) up
  | [], up, x, a, _, h => ⟨by rw [keys, List.map_nil, List.append_nil] at h; exact h, trivial⟩
  | (y, b) :: l, up, x, a, hl, h => ⟨hl.1, hung_snoc hl.2 (by rw [List.append_assoc]; exact h)⟩
end DL
namespace DL
open PySem PySem.Spec PyProof.Rows L2
variable [TabC]
end DL
namespace DL
open PySem PySem.Spec PyProof.Rows L2
variable [TabC]
theorem binTMU {f : D → D → Option D} {m : EM D} {b : FM D} {y : D} {xq : XQ} {s : Ev} {n : Nat} {Q : Bool → Nat → Prop} (hb : b s = .ok y) (h : m xq s n fun x n1 => ∃ k, f x y = some (.bl k) ∧ Q k n1) (mn : Mn m) : eBinT f m (up b) xq s n Q := by
  unfold eBinT
  refine mn _ _ _ _ _ (fun x n1 q => ?_) h
  unfold up
  rw [hb]
  exact q
end DL
namespace DL
open PySem PySem.Spec PyProof.Rows L2
variable [TabC]
/-! all times -/
abbrev Tm := List (Str × Int)
/-! the minutes of moments -/
def st (rs : Row) (t : Tm) (x : Str) : Int := added rs x + ((chain (anc rs) x).map (get t)).sum
theorem put_newM {a : List (D × D)} {k : MD.NK} {kd d : D} (h : lookM a k = none) : putM a k kd d = a ++ [(kd, d)] := by
  unfold putM
  have hany : ¬ a.any (fun p => decide (nkey p.1 = some k)) = true := fun z => by
    obtain ⟨p, hp, e⟩ := List.any_eq_true.mp z
    unfold lookM at h
    cases hf : a.find? fun p => decide (nkey p.1 = some k) with
    | none => exact (List.find?_eq_none.mp hf p hp) e
    | some q => rw [hf] at h; cases h
  rw [if_neg hany]
/-- the puts of one dish -/
def stepP (rs : Row) (P : List Str) (x : Str) : List Str := if ((get rs x).1 = "clock" ∨ (get rs x).1 ∈ P) ∧ x ∉ P then P ++ [x] else P
def turnP (rs : Row) (P : List Str) : List Str := (keys rs).foldl (stepP rs) P
/-- all dishes in the order in which their minutes are found -/
def found (rs : Row) : List Str := (keys rs).foldl (fun P _ => turnP rs P) []
theorem mputE {i : Nat} {a b : FM D} {s : Ev} {d kd : D} {kk : MD.NK} {kvs : List (D × D)} (h : a s = .ok d) (h2 : b s = .ok kd) (hk : mkey kd = some kk) (h3 : s[i]? = some (some (.dmx kvs))) (hl : kvs.length < LIM) : fMput i b a s = .nx (s.set i (some (.dmx (putM kvs kk kd d)))) := by
  unfold fMput
  rw [h]
  show (b s).so _ = _
  rw [h2]
  show (ofO (mkey kd)).so _ = _
  rw [hk]
  show dmxAt s i _ = _
  unfold dmxAt
  rw [h3]
  show (if kvs.length < LIM then _ else _) = _
  rw [if_pos hl]
end DL
namespace DL
open PySem PySem.Spec PyProof.Rows L2
variable [TabC]
/-! ### the order of names -/
/-! ### meals with stations -/
abbrev Sta := Bool × List Str
end DL
namespace DL
open PySem PySem.Spec PyProof.Rows L2
variable [TabC]
/-! str(x) of a text, sorted of texts -/
end DL
namespace DL
open PySem PySem.Spec PyProof.Rows L2
variable [TabC]
/-! a list == [], whatever lies in it -/
end DL
namespace DL
open PySem PySem.Spec PyProof.Rows L2
variable [TabC]
/-! a list != [], whatever lies in it -/
end DL
namespace MD
open L2 PySem PySem.Spec PyProof.Rows SeqAt
/-! the rows of a dict, listed -/
def rowsO (a d : Addr) : HO := .ext fun h => h.IsItemsView a d
theorem rowsO_ok {P : Program} {w : World} {H : Hp} {h : Heap} {a d : Addr} (e : h.IsItemsView a d) : ObjOk P w H h a (rowsO a d) := ⟨e, let ⟨o, ho, _⟩ := e; ⟨o, ho⟩, fun h1 h2 z k => let ⟨o, ho, r⟩ := z; ⟨o, k _ ho, r⟩⟩
section
variable {X : Cx}
def rRows : V → List V → Hp → VK → Prop := fun x xs H Q => ∃ d kvs, x = .ref d ∧ xs = [] ∧ Rd H d (.dK kvs) ∧ ∀ a, H a = none → Q (.ref a) (upd H a (rowsO a d))
theorem mt_rows : MtR X "dict.items" rRows := fun pins s σ H x xs v us Q I rx rxs ⟨d, kvs, ex, exs, rd, q⟩ => by
  subst ex exs
  cases rx
  cases rxs
  obtain ⟨z, hd, vs, rel, dict⟩ := dk_rd I.hok rd
  refine call_meetsIn PySem.F.slot_dict_items dict.typeIs PySem.F.entry_dict_items (PySem.F.args_dict_items_1 _) (meets_dict_items (mixKind X.prog X.w) d hd) ⟨⟨vs, dict⟩, ?_⟩
  exact ⟨.ref s.heap.objs.size, _, I.laid (t' := s.toks) (a := s.heap.objs.size) (o := rowsO s.heap.objs.size d) (fun b o z => Heap.get?_push_of_some _ z) (Nat.le_refl _) (rowsO_ok ⟨_, Heap.get?_push_size _ rfl, rfl, rfl⟩), rfl, q _ (I.hok.fresh (Nat.le_refl _))⟩
def tRows (td : TE) : TE := fun σ H Q => td σ H fun x H1 => rRows x [] H1 Q
theorem pe_rows {e : Expr} {td : TE} {apos cpos : Pos} (he : PE X e td) (hbase : attributeBase e "items" X.env (eval e X.env) = eval e X.env) (hline : (apos.endLine == cpos.line) = true) : PE X (.Call (.Attribute e "items" apos) [] [] cpos) (tRows td) :=
  ⟨fun pins s σ H Q I q => wpAny_Call_method hbase rfl hline PySem.F.plainAttrs_dict PySem.F.slot_dict_items rfl (thn (he.run pins s σ H _ I q) fun u s1 ⟨x, H1, I1, rx, d, kvs, ex, exs, rd, q1⟩ => by
    subst ex
    obtain rfl : u = Value.ref d := rx
    obtain ⟨z, hd, vs, rel, dict⟩ := dk_rd I1.hok rd
    exact ⟨dict.typeIs, dict.mapOf.noDict, callWith_method0 (mt_rows pins s1 σ H1 (.ref d) [] (.ref d) [] Q I1 rfl .nil ⟨d, kvs, rfl, rfl, rd, q1⟩)⟩)⟩
/-- what is laid: the list, and a tuple a row -/
structure RowsAt (H H' : Hp) (p : Addr) (ts : List Addr) (kvs : List (Key × V)) : Prop where
  kept : ∀ b o, H b = some o → H' b = some o
  new : H p = none
  news : ∀ t ∈ ts, H t = none
  lst : H' p = some (.lst (ts.map V.ref))
  tup : Paired (fun (t : Addr) (q : Key × V) => H' t = some (.tup [kV q.1, q.2])) ts kvs
def rListRows : List V → Hp → VK → Prop := fun xs H Q => ∃ (a d : Addr) (kvs : List (Key × V)), xs = [.ref a] ∧ H a = some (rowsO a d) ∧ Rd H d (.dK kvs) ∧ ∀ H' p ts, RowsAt H H' p ts kvs → Q (.ref p) H'
theorem call_listRows (hc : X.calm = true) : CallR X (.type "list") rListRows := fun pins s σ H xs us Q I r ⟨a, d, kvs, e, ha, rd, q⟩ => by
  subst e
  obtain ⟨u, eu, rx⟩ := vals1 r
  subst eu
  cases rx
  obtain ⟨z, hd, vs, rel, dict⟩ := dk_rd I.hok rd
  obtain ⟨ep, at_⟩ := dict.dictAt
  have view : s.heap.IsItemsView a d := (I.hok a _ ha).1
  have few : vs.length ≤ sizeLine := rel.length ▸ z
  exact PySem.W.kdx_call (I.ok.hd hc) view at_ few fun h' tk acc c as kp lt len laid eacc =>
    let ⟨H', k1, k2, k3, _, k5, k6, J⟩ := LiI.items_laid (tk := tk) I z rel kp lt len laid eacc
    ⟨.ref _, H', J, rfl, q H' _ as ⟨k1, k2, k3, k5, k6⟩⟩
end
end MD
namespace DL
open PySem PySem.Spec PyProof.Rows L2
variable [TabC]
def eListRows (m : EM D) : EM D := fun xq s n Q => m xq s n fun d n1 => ∃ kvs, d = .dic kvs ∧ Q (.lst (itemsD kvs)) n1
section
variable {X : Cx} {E : XK} {O : List Nat} {e : Expr} {m : EM D} {apos cpos pos : Pos}
theorem rows_rep {K : PySem.W.Frag} {aS : Addr} {H : Hp} {A : AS} : ∀ {kvs : List (Key × D)} {ys : List (Key × V)} {ts : List Addr}, RepK K aS H A kvs ys → Paired (fun (t : Addr) (q : Key × V) => H t = some (.tup [kV q.1, q.2])) ts ys → RepL K aS H A (itemsD kvs) (ts.map V.ref)
  | [], ys, ts, r, p => by
    rw [RepK] at r
    subst r
    cases p
    exact RepL.nil
  | (k, d) :: kvs, ys, ts, r, p => by
    rw [RepK] at r
    obtain ⟨v, vr, e, r1, r2⟩ := r
    subst e
    cases p with
    | cons h t => exact RepL.cons (rep_tup (.inl h) (RepL.cons (rep_kD k) (RepL.cons r1 RepL.nil))) (rows_rep r2 t)
theorem ve_listRows {p : Pos} (hc : X.calm = true) (hg : Gl X "list") (hm : X.mg "list" = none) (h : VE X E O e m) (hv : bootBuiltins "list" = some (.type "list") := by rfl) (hbase : attributeBase e "items" X.env (eval e X.env) = eval e X.env := by rfl) (hline : (apos.endLine == cpos.line) = true := by rfl)
    (hs : starEach [.Call (.Attribute e "items" apos) [] [] cpos] X.env = (false, eval (.Call (.Attribute e "items" apos) [] [] cpos) X.env) :: starEach [] X.env := by rfl) (hpl : (backTo pos (starEach [] X.env)).any (·.1) = false := by rfl) :
    VE X E O (.Call (.Name "list" p) [.Call (.Attribute e "items" apos) [] [] cpos] [] pos) (eListRows m) := by
  obtain ⟨mn, t, pe, f⟩ := h
  refine ⟨fun xq s n Q Q' hq w => mn _ _ _ _ _ (fun d n1 ⟨kvs, e, q⟩ => ⟨kvs, e, hq _ _ q⟩) w, _, pe_callTy (MD.call_listRows hc) hg hm hv (pa_cons (MD.pe_rows pe hbase hline) pa_nil hs) (by decide) rfl hs hpl, fun aS A0 H0 σ H s n xq Q S L hm => ?_⟩
  refine f aS A0 H0 σ H s n xq _ S L (mn _ _ _ _ _ (fun d n1 q v H1 k1 st1 r1 => ?_) hm)
  obtain ⟨kvs, ed, q⟩ := q
  subst ed
  rw [Rep] at r1
  obtain ⟨a, ys, ev, na, rd, rk⟩ := r1
  subst ev
  refine ⟨a, ys, rfl, rfl, rd, fun b hb => ?_⟩
  have S1 := S.step k1 st1
  have rd2 : Rd (upd H1 b (MD.rowsO b a)) a (.dK ys) := by
    rcases rd with rd | ⟨o, rd⟩
    · exact .inl (by rw [upd_ne (ne_of_none rd hb)]; exact rd)
    · exact .inr ⟨o, by rw [upd_ne (ne_of_none rd hb)]; exact rd⟩
  refine ⟨b, a, ys, rfl, upd_same, rd2, fun H' p ts R => ?_⟩
  have st2 : StA X.K aS (upd H1 b (MD.rowsO b a)) n1 := st1.upd hb
  have k2 : KpS aS H1 H' := fun c u z _ => Kp1.of (R.kept c u (by rw [upd_ne (ne_of_none z hb)]; exact z))
  have st3 : StA X.K aS H' n1 := by
    obtain ⟨a0, cs, i, g, m, dd, e, h1, ⟨o, h2⟩, h3, h4, h5, h6, h7, h8, h9⟩ := st2
    exact ⟨a0, cs, i, g, m, dd, R.kept _ _ e, h1, ⟨o, R.kept _ _ h2⟩, h3, h4, h5, h6, h7, h8, h9.1.ext R.kept, fun _ _ _ => trivial⟩
  refine q (.ref p) H' (k1.trans k2) st3 ?_
  have hp : H1 p = none := by
    cases z : H1 p with
    | none => rfl
    | some u =>
      have := R.new
      rw [upd_ne (ne_of_none z hb), z] at this
      cases this
  rw [Rep]
  exact ⟨p, _, rfl, fun z => S1.new hp z, R.lst, rows_rep (RepK.kp k2 st1 AV.st rk) R.tup⟩
end
def fListRows (a : FM D) : FM D := fun s => (a s).bind fun d => match d with
  | .dic kvs => .ok (.lst (itemsD kvs))
  | _ => .bad
theorem le_listRows {a : FM D} : ∀ xq s n Q, up (fListRows a) xq s n Q → eListRows (up a) xq s n Q := fun xq s n Q h => by
  unfold eListRows up
  refine wp_mono (fun d h => ?_) (wp_bind h)
  cases d with
  | dic kvs => exact ⟨kvs, rfl, h⟩
  | _ => exact h.elim
theorem listRowsE {a : FM D} {s : Ev} {kvs : List (Key × D)} (h : a s = .ok (.dic kvs)) : fListRows a s = .ok (.lst (itemsD kvs)) := by
  unfold fListRows
  rw [h]
  rfl
end DL
namespace MD
open L2 PySem PySem.Spec PyProof.Rows SeqAt
/-! list(d.values()) -/
section
variable {X : Cx}
theorem vals_rel : ∀ {ys : List (Key × V)} {vs : List (Key × Value)}, KV ys vs → Vals (ys.map (·.2)) (vs.map (·.2))
  | _, _, .nil => .nil
  | _, _, .cons r t => .cons r.2 (vals_rel t)
def rListVals : List V → Hp → VK → Prop := fun xs H Q => ∃ (a d : Addr) (kvs : List (Key × V)), xs = [.ref a] ∧ H a = some (viewO a d) ∧ Rd H d (.dK kvs) ∧ ∀ p, H p = none → Q (.ref p) (upd H p (.lst (kvs.map (·.2))))
theorem call_listVals (hc : X.calm = true) : CallR X (.type "list") rListVals := fun pins s σ H xs us Q I r ⟨a, d, kvs, e, ha, rd, q⟩ => by
  subst e
  obtain ⟨u, eu, rx⟩ := vals1 r
  subst eu
  cases rx
  obtain ⟨z, hd, vs, rel, dict⟩ := dk_rd I.hok rd
  obtain ⟨ep, at_⟩ := dict.dictAt
  have view : s.heap.IsValuesView a d := (I.hok a _ ha).1
  have few : vs.length ≤ sizeLine := rel.length ▸ z
  refine PySem.W.kdl_call (PySem.W.kdl_values (knd := mixKind X.prog X.w) (ep := ep)) (I.ok.hd hc) ⟨view, at_⟩ few fun h' tk acc c kp laid its => ?_
  have ev : acc.toList = vs.map (·.2) := PySem.W.kdl_vals_eq acc.toList (by rw [Array.length_toList]; exact its.1) fun j v e => its.2 j v (by rw [← Array.getElem?_toList]; exact e)
  refine ⟨.ref s.heap.objs.size, _, I.laid (t' := tk) (a := s.heap.objs.size) (o := .lst (kvs.map (·.2))) kp (Nat.le_refl _) ⟨by rw [List.length_map]; exact z, acc.toList, c, by rw [ev]; exact vals_rel rel, ?_⟩, rfl, q _ (I.hok.fresh (Nat.le_refl _))⟩
  rw [Array.toArray_toList]
  exact laid
end
end MD
namespace DL
open PySem PySem.Spec PyProof.Rows L2
variable [TabC]
section
variable {X : Cx} {E : XK} {O : List Nat} {e : Expr} {m : EM D} {apos cpos pos : Pos}
theorem vals_rep {K : PySem.W.Frag} {aS : Addr} {H : Hp} {A : AS} : ∀ {kvs : List (Key × D)} {ys : List (Key × V)}, RepK K aS H A kvs ys → RepL K aS H A (kvs.map (·.2)) (ys.map (·.2))
  | [], ys, r => by
    rw [RepK] at r
    subst r
    exact RepL.nil
  | (k, d) :: kvs, ys, r => by
    rw [RepK] at r
    obtain ⟨v, vr, e, r1, r2⟩ := r
    subst e
    exact RepL.cons r1 (vals_rep r2)
end
def fListVals (a : FM D) : FM D := fun s => (a s).bind fun d => match d with
  | .dic kvs => .ok (.lst (kvs.map (·.2)))
  | _ => .bad
/-- of an owned dict -/
def eListValsO (i : Nat) : EM D := fun xq s n Q => ∃ kvs, s[i]? = some (some (.dic kvs)) ∧ Q (.lst (kvs.map (·.2))) n
section
variable {X : Cx} {E : XK} {O : List Nat} {apos cpos pos : Pos}
theorem ve_listValsO {p px : Pos} {x : Str} {i : Nat} (hc : X.calm = true) (hg : Gl X "list") (hm : X.mg "list" = none) (hi : i ∈ O) (hN : X.N[i]? = some x) (hx : Vis X.env.scope x) (hv : bootBuiltins "list" = some (.type "list") := by rfl) (hbase : attributeBase (.Name x px) "values" X.env (eval (.Name x px) X.env) = eval (.Name x px) X.env := by rfl) (hline : (apos.endLine == cpos.line) = true := by rfl)
    (hs : starEach [.Call (.Attribute (.Name x px) "values" apos) [] [] cpos] X.env = (false, eval (.Call (.Attribute (.Name x px) "values" apos) [] [] cpos) X.env) :: starEach [] X.env := by rfl) (hpl : (backTo pos (starEach [] X.env)).any (·.1) = false := by rfl)
    (hd : (x == ("__debug__" : Str)) = false := by decide) (hcd : (x == ("__classdict__" : Str)) = false := by decide) :
    VE X E O (.Call (.Name "list" p) [.Call (.Attribute (.Name x px) "values" apos) [] [] cpos] [] pos) (eListValsO i) := by
  refine ⟨fun xq s n Q Q' hq ⟨kvs, e, q⟩ => ⟨kvs, e, hq _ _ q⟩, _, pe_callTy (MD.call_listVals hc) hg hm hv (pa_cons (MD.pe_vals (pe_var hN hx hd hcd) hbase hline) pa_nil hs) (by decide) rfl hs hpl, fun aS A0 H0 σ H1 s n xq Q S L hm => ?_⟩
  obtain ⟨kvs, e, q⟩ := hm
  obtain ⟨a, ys, e1, na, e3, rk⟩ := own_dic S hi e
  refine ⟨.ref a, e1, a, ys, rfl, rfl, .inl e3, fun b hb => ?_⟩
  have st1 := S.st
  have rd2 : Rd (upd H1 b (MD.viewO b a)) a (.dK ys) := .inl (by rw [upd_ne (ne_of_none e3 hb)]; exact e3)
  refine ⟨b, a, ys, rfl, upd_same, rd2, fun p hp => ?_⟩
  have st2 : StA X.K aS (upd H1 b (MD.viewO b a)) n := st1.upd hb
  have hp1 : H1 p = none := by
    cases z : H1 p with
    | none => rfl
    | some u =>
      rw [upd_ne (ne_of_none z hb), z] at hp
      cases hp
  have k2 : KpS aS H1 (upd (upd H1 b (MD.viewO b a)) p (.lst (ys.map (·.2)))) := fun c u z h => Kp1.of (by
    have z2 : upd H1 b (MD.viewO b a) c = some u := by rw [upd_ne (ne_of_none z hb)]; exact z
    rw [upd_ne (ne_of_none z2 hp)]; exact z2)
  refine q (.ref p) _ k2 (st2.upd hp) ?_
  rw [Rep]
  exact ⟨p, _, rfl, fun z => S.new hp1 z, upd_same, vals_rep (RepK.kp k2 st1 AV.st rk)⟩
end
def fListValsO (i : Nat) : FM D := fun s => match s[i]? with
  | some (some (.dic kvs)) => .ok (.lst (kvs.map (·.2)))
  | _ => .bad
theorem le_listValsO {i : Nat} : ∀ xq s n Q, up (fListValsO i) xq s n Q → eListValsO i xq s n Q := fun xq s n Q h => by
  unfold up fListValsO at h
  split at h
  · next kvs e => exact ⟨kvs, e, h⟩
  · exact h.elim
theorem listValsOE {i : Nat} {s : Ev} {kvs : List (Key × D)} (h : s[i]? = some (some (.dic kvs))) : fListValsO i s = .ok (.lst (kvs.map (·.2))) := by
  unfold fListValsO
  rw [h]
end DL
namespace DL
open PySem PySem.Spec PyProof.Rows L2
variable [TabC]
/-! ### defs that hand back a pair whose second thing is new -/
section
variable {X : Cx} {E : XK} {O O' OL : List Nat} {e e1 e2 : Expr} {st : Stmt} {rest : List Stmt} {m m1 m2 : EM D} {ms mr : SM} {pos : Pos} {i j : Nat}
variable {es : List Expr} {ml : EM (List D)} {p : Pos} {x y : Str} {f : Addr} {fd : FuncData} {ps : List Str} {k k' : Nat} {sp : FSp} {dds : List D} {dvs : List V} {us : List Value}
end
section
variable {P : Program} {w : World} {K : PySem.W.Frag} {mg : Str → Option Value} {base : Heap} {x qual : Str} {params : Arguments} {body : List Stmt} {scope : Scope} {dvs : List V} {kws : List (Str × V)} {f : Addr} {fd : FuncData}
end
end DL
namespace HX
open PySem L2 He
/-! the head's facts, with static methods -/
structure SaysS (P : Program) (fa : List Fa) (fn : List DefD) (er : List ErrD) (tf : List Defn) (ex : PySem.W.Frag → Bool) (sf : List He5.DefA) (w : World) (h : Heap) (K : PySem.W.Frag) : Prop extends SaysE P fa fn er tf ex w h K where
  sok : ∀ d ∈ sf, d.ok K = true
  sfn : sf.map (fnS K) = sf.map He5.DefA.val
theorem saysS_of {P : Program} {n : Nat} {fa : List Fa} {fn : List DefD} {er : List ErrD} {tf : List Defn} {ex : PySem.W.Frag → Bool} {sf : List He5.DefA} {w : World} {h : Heap} (e : obsS P n fa fn er tf ex sf h.get? = valS fn er sf) : SaysS P fa fn er tf ex sf w h (frT h.get? (asE h.get? n)) := by
  have e1 : obsE P n fa fn er tf ex h.get? = valE fn er := congrArg (fun z : AlS => z.1) e
  have e2 := congrArg (fun z : AlS => z.2.1) e
  have e3 := congrArg (fun z : AlS => z.2.2) e
  exact { saysE_of (w := w) e1 with sok := fun d hd => List.all_eq_true.mp e2 d hd, sfn := e3 }
def hookS (P : Program) (n : Nat) (fa : List Fa) (fn : List DefD) (er : List ErrD) (tf : List Defn) (ex : PySem.W.Frag → Bool) (sf : List He5.DefA) : PySem.W.Hook where
  α := AlS
  obs := fun s => obsS P n fa fn er tf ex sf s.heap.get?
  val := fun _ => valS fn er sf
  says := fun w h => ∃ K : PySem.W.Frag, K.In h ∧ SaysS P fa fn er tf ex sf w h K
  of := fun _ _ e => ⟨_, frT_in, saysS_of e⟩
  keeps := fun _ _ _ ⟨K, hK, c⟩ k => ⟨K, PySem.W.Frag.In.keeps hK k, { c with empty := fun p hp => k _ _ (c.empty p hp) }⟩
theorem obsS_eq {P : Program} {n : Nat} {fa : List Fa} {fn : List DefD} {er : List ErrD} {tf : List Defn} {ex : PySem.W.Frag → Bool} {sf : List He5.DefA} {g : Addr → Option Obj} {s : Shared} (h : ∀ a, g a = s.heap.get? a) : obsS P n fa fn er tf ex sf g = (hookS P n fa fn er tf ex sf).obs s := by
  cases (funext h : g = s.heap.get?)
  rfl
section
variable {X : Cx} {pins : List (Addr × Obj)} {σ : L2.St} {H : Hp} {s : Shared} {C f : Addr} {m : Str} {A : Around} {E : Value → Shared → Prop}
variable {CX : CXT} {k : Nat} {fd : FuncData} {ps : List Str} {sp : Sp} {EX : XK} {ds : List Value} {dvs : List V} {o e : Expr} {es : List Expr} {pos apos : Pos} {ta : TE} {t : TA} {pl : Sem Bool}
end
end HX
namespace DL
open PySem PySem.Spec PyProof.Rows L2
variable [TabC]
/-! ### defs called with some of their arguments, static methods, d.get(k) -/
section
variable {X : Cx} {E : XK} {O : List Nat} {e o : Expr} {es : List Expr} {ml : EM (List D)} {mo : EM D} {pos p apos : Pos} {x C m : Str} {ps : List Str} {k k' : Nat} {sp : FSp} {dds : List D}
end
end DL
/-! the def that tells whether what it got raises an error of one class -/
namespace TR
open PySem PySem.Spec PyProof.Rows L2
section
variable {X : Cx}
end
end TR
namespace DL
open PySem PySem.Spec PyProof.Rows L2 LamX TR
variable [TabC]
section
variable {X : Cx} {E : XK} {O : List Nat} {x C : Str} {params : Arguments} {body : Expr} {scope : Scope} {m : EM D} {k k' : Nat} {p lpos pos : Pos} {c P : Addr}
end
/-! as plain functions -/
def fTried (ok : OKF) (hs : HS) (O : List Nat) (f : FM D) : FM D := fun s => match f (hideL s O) with
  | .ok d => .ok (okD1 ok d)
  | .ex x => ofO ((hpick hs x.1).bind fun hv => hvD hv x.2)
  | .bad => .bad
theorem le_tried {ok : OKF} {hs : HS} {O : List Nat} {f : FM D} : ∀ xq s n Q, up (fTried ok hs O f) xq s n Q → eTried ok hs O (up f) xq s n Q := fun xq s n Q h => by
  refine ⟨fun x n' => ∃ hv d, hpick hs x.1 = some hv ∧ hvD hv x.2 = some d ∧ Q d n', fun d n' => Q (okD1 ok d) n', fun x n' z => z, fun d n' z => z, ?_⟩
  unfold up fTried at h
  unfold up
  cases e : f (hideL s O) with
  | ok d => rw [e] at h; exact h
  | ex x =>
    rw [e] at h
    obtain ⟨d, e1, q⟩ := wp_ofO h
    obtain ⟨hv, e2, e3⟩ := Option.bind_eq_some_iff.mp e1
    exact ⟨hv, d, e2, e3, q⟩
  | bad => rw [e] at h; exact h.elim
end DL
namespace DL
open PySem PySem.Spec PyProof.Rows L2 LamX
variable [TabC]
/-! ### defs that make lambdas: their code object is known -/
section
variable {P : Program} {w : World} {K : PySem.W.Frag} {mg : Str → Option Value} {base : Heap} {x qual : Str} {params : Arguments} {body : List Stmt} {scope : Scope} {dvs : List V} {kws : List (Str × V)} {f : Addr} {fd : FuncData}
theorem okC {CX : CXT} {N ps : List Str} {k : Nat} {sp : Sp} {p : He.Defn} (F : FunD K x qual params body scope dvs kws f fd) (hf : f = He.fAd K p) (S : FnScope N ps scope) (len : ∀ vs H Q E, sp vs H Q E → vs.length = ps.length)
    (hbody : ∀ (A : Around) (outer : List Env) (s : Shared) (H : Hp) (vs : List V) (Q : VK) (E : XK), Room k (A.deeper (envOfC qual scope s.heap.objs.size f (.ref (He.cT K p).1))) → sp vs H Q E →
      ∃ t, PSs (cxOf CX P w K mg base N qual scope f (.ref (He.cT K p).1) A outer s H E) body t ∧ t { nx := fun _ H' => Q .non H', rt := Q } (L2.start N vs) H) : FnOk P w K mg base CX (k + 1) f fd ps sp := by
  obtain ⟨oc, od, dV, kV, doc, pm, an, cdv, ct, osl, rfl, lk, hcd, _, _⟩ := F.ex
  have hc : cdv = .ref (He.cT K p).1 := by
    cases cdv with
    | ref c =>
      rw [hf] at lk
      show Value.ref c = .ref (He.codeOf K p)
      rw [He.codeOf_eq lk (c := c) rfl]
    | _ => cases hcd
  subst hc
  exact fn_of lk hcd S len fun A outer s H vs Q E hr hsp => hbody A outer s H vs Q E hr hsp
def BodyL (P : Program) (w : World) (K : PySem.W.Frag) (mg : Str → Option Value) (base : Heap) (N : List Str) (qual : Str) (scope : Scope) (k : Nat) (O O' : List Nat) (body : List Stmt) (m : SM) (c : Addr) : Prop :=
  ∀ (f : Addr) (A : Around) (outer : List Env) (s : Shared) (H : Hp) (E : XK), Room k (A.deeper (envOfC qual scope s.heap.objs.size f (.ref c))) → VSs (CxD P w K mg base N qual scope f (.ref c) A outer s H E) (EU H E) O O' [] body m
end
section
variable {P : Program} {w : World} {K : PySem.W.Frag} {mg : Str → Option Value} {base : Heap} {x : Str} {params : Arguments} {st : Stmt} {rest : List Stmt} {scope : Scope} {f : Addr} {fd : FuncData}
theorem law_topL {N : List Str} {k : Nat} {m : SM} {O' : List Nat} {p0 : He.Defn} (F : FunD K x x params (st :: rest) scope [] [] f fd) (hf : f = He.fAd K p0) (Sc : FnScope N ["_law_script"] scope) (hN : 2 ≤ N.length)
    (h1 : ∀ (cdv : Value) (A : Around) (outer : List Env) (s : Shared) (H : Hp) (E : XK), Room k (A.deeper (envOfC x scope s.heap.objs.size f cdv)) → PS (CxD P w K mg base N x scope f cdv A outer s H E) st (tFirst K))
    (hb : BodyL P w K mg base N x scope k [] O' rest m (He.cT K p0).1)
    (hm : m (fun _ _ => False) { nx := fun _ _ => False, rt := fun d _ => d = .bl true } (none :: some .st :: List.replicate (N.length - 2) none) 0) : FnOk P w K mg base (CX P w) (k + 1) f fd ["_law_script"] (spLaw K) := by
  refine okC F hf Sc (fun vs H Q E h => ?_) (fun A outer s H vs Q E hr h => ?_)
  · obtain ⟨a, ns, rfl, _⟩ := h
    rfl
  · obtain ⟨a, ns, rfl, hs, hT, hq⟩ := h
    obtain ⟨t, p, ft⟩ := hb f A outer s H E hr
    refine ⟨_, pss_cons (h1 _ A outer s H E hr) (pss_lock1 p), ?_⟩
    refine ⟨.ref a, rfl, a, ns, rfl, hs, fun l p cs H' hne hp hl kp hL hP => ?_⟩
    refine ⟨l, _, hL, trivial, fun od => ?_⟩
    obtain ⟨j, hj⟩ : ∃ j, N.length = j + 2 := ⟨N.length - 2, by omega⟩
    have es : (L2.start N [V.ref a]).set 1 (some (.ref p)) = some (.ref a) :: some (.ref p) :: List.replicate j none := by
      unfold L2.start
      have e : N.length - [V.ref a].length = j + 1 := by rw [hj]; rfl
      rw [e, List.replicate_succ]
      rfl
    show t _ ((L2.start N [V.ref a]).set 1 (some (.ref p))) _
    rw [es]
    have hj2 : N.length - 2 = j := by omega
    rw [hj2] at hm
    have hP' : upd H' l (.frz od (.lst (cs.map V.int))) p = some (.lst (l5 l 0 0 0 0)) := by rw [upd_ne (Ne.symm hne)]; exact hP
    have S : SR K p [] ⟨fun _ => False, none⟩ (upd H' l (.frz od (.lst (cs.map V.int)))) (some (.ref a) :: some (.ref p) :: List.replicate j none) (upd H' l (.frz od (.lst (cs.map V.int)))) (none :: some .st :: List.replicate j none) 0 := by
      refine ⟨by rw [List.length_cons, List.length_cons, List.length_cons, List.length_cons, List.length_replicate, List.length_replicate], fun i d e _ => ?_, (fun i hi => nomatch hi), (fun i j b hi => nomatch hi), KpS.refl, ⟨l, cs, 0, 0, 0, 0, hP', hne, ⟨od, upd_same⟩, by decide, by decide, by decide, by decide, by decide, by decide, tabs_poke ⟨hT.1.ext kp.1, fun b ps e => hT.2 b ps (kp.2 b ps e)⟩ hL (fun _ z => nomatch z) (fun _ _ z => by unfold LamX.CodeO at z; cases z)⟩, (fun a h => h.elim), (fun hi => nomatch hi)⟩
      match i, e with
      | 0, e => cases e
      | 1, e => cases e; exact ⟨_, rfl, by rw [Rep]⟩
      | i + 2, e =>
        have e : (List.replicate j (none : Option D))[i]? = some (some d) := e
        rw [List.getElem?_replicate] at e
        split at e <;> cases e
    refine ft p _ _ _ _ _ 0 (fun _ _ => False) _ _ S (fun _ _ _ _ _ _ _ _ z => z.elim) ?_ hm
    refine ⟨fun _ _ _ _ _ z => z.elim, fun v H'' d n kp st r e => ?_, fun _ _ _ _ _ z => z.elim, fun _ _ _ _ _ z => z.elim⟩
    have e : d = .bl true := e
    subst e
    rw [Rep] at r
    subst r
    exact hq H''
end
/-- new tables -/
theorem tabs_new {T : List (Addr × Str)} {H : Hp} (h : ∀ p ∈ T, H p.1 = some (.tbl #[])) : LamX.Tabs T H := fun p hp => ⟨#[], h p hp, trivial, fun pos cv hc => by cases hc⟩
end DL
namespace DL
open PySem PySem.Spec PyProof.Rows L2 LamX
variable [TabC]
theorem lam_tk {X : Cx} {A : Around} {outer : List Env} {s : Shared} {H : Hp} {E : XK} {scope : Scope} {f c' : Addr} : TK (lamCx X A outer s H E scope f c') (EU H E) := tk_eu (X := lamCx X A outer s H E scope f c') (takes_of rfl rfl rfl rfl)
end DL
namespace TR
open PySem PySem.Spec PyProof.Rows L2
/-! ### the clauses -/
section
variable {X : Cx} {a C : Addr} {oe : Obj} {cls : Value} {d : Option Addr} {pn : List (Addr × Obj)} {fd e f w : Str} {i j k1 k2 k3 : Nat} {q1 q2 q3 q4 q5 q6 q7 q8 : Pos}
theorem clause_fld (nd : X.N.Nodup) (hj : X.N[j]? = some fd) (hlf : X.env.scope.names.lookup fd = some .local) (hi : X.N[i]? = some e) (hle : X.env.scope.names.lookup e = some .local) (T : XfC X.K C) (hno : PySem.W.findIn X.K (.ref C) f = some none) (hz : Zc cls d oe) (hf : ∃ vs, oe.data = .fields vs)
    (hd : (e == ("__debug__" : Str)) = false := by decide) (hcd : (e == ("__classdict__" : Str)) = false := by decide)
    (hsw : swapsWith (.Tuple [.Constant (.str w) k1 q2, .Attribute (.Name e q3) f q4] k2 q5) (some (.Name fd q1)) q6.line (X.suite a ((a, oe) :: pn)).env = pure false := by rfl) (hb : attributeBase (.Name e q3) f X.env (eval (.Name e q3) X.env) = eval (.Name e q3) X.env := by rfl) :
    PSs (X.suite a ((a, oe) :: pn)) [.Assign [.Name fd q1] (.Tuple [.Constant (.str w) k1 q2, .Attribute (.Name e q3) f q4] k2 q5) q6] (tsOf X.K j (C, some i, .fld w f) a cls d) :=
  pss_one (ps_set (i := j) nd hj (.inl hlf) (pe_tup (pa_cons pe_str (pa_cons (pe_xf T hno hz hf (pe_var (X := X.suite a ((a, oe) :: pn)) hi (.inl hle) hd hcd) hb) pa_nil))) hsw (.inr hlf))
theorem clause_lst (nd : X.N.Nodup) (hj : X.N[j]? = some fd) (hlf : X.env.scope.names.lookup fd = some .local) (hi : X.N[i]? = some e) (hle : X.env.scope.names.lookup e = some .local) (T : XfC X.K C) (hno : PySem.W.findIn X.K (.ref C) f = some none) (hg : Gl X "list") (hm : X.mg "list" = none) (hz : Zc cls d oe) (hf : ∃ vs, oe.data = .fields vs)
    (hd : (e == ("__debug__" : Str)) = false := by decide) (hcd : (e == ("__classdict__" : Str)) = false := by decide)
    (hsw : swapsWith (.Tuple [.Constant (.str w) k1 q2, .Call (.Name "list" q7) [.Attribute (.Name e q3) f q4] [] q8] k2 q5) (some (.Name fd q1)) q6.line (X.suite a ((a, oe) :: pn)).env = pure false := by rfl) (hb : attributeBase (.Name e q3) f X.env (eval (.Name e q3) X.env) = eval (.Name e q3) X.env := by rfl) :
    PSs (X.suite a ((a, oe) :: pn)) [.Assign [.Name fd q1] (.Tuple [.Constant (.str w) k1 q2, .Call (.Name "list" q7) [.Attribute (.Name e q3) f q4] [] q8] k2 q5) q6] (tsOf X.K j (C, some i, .lst w f) a cls d) :=
  pss_one (ps_set (i := j) nd hj (.inl hlf) (pe_tup (pa_cons pe_str (pa_cons (pe_callTy call_list_of hg hm boot_list (pa_cons (pe_xf T hno hz hf (pe_var (X := X.suite a ((a, oe) :: pn)) hi (.inl hle) hd hcd) hb) pa_nil)) pa_nil))) hsw (.inr hlf))
end
/-! ### without found = None ahead -/
section
variable {X : Cx}
end
end TR
namespace DL
open PySem PySem.Spec PyProof.Rows L2 LamX
variable [TabC]
theorem gtr_of {P : Program} {w : World} {K : PySem.W.Frag} {mg : Str → Option Value} {base : Heap} {x : Str} {params : Arguments} {body : List Stmt} {scope : Scope} {f : Addr} {fd : FuncData} {N : List Str} {a : Str} {ok : TR.OKF} {hs : HS} (F : FunD K x x params body scope [] [] f fd) (hg : mg x = some (.ref f)) (Sc : FnScope N [a] scope) (hb : BindOk x params body scope [a]) (h0 : N[0]? = some a) (h2n : 2 ≤ N.length) (hv : Vis scope a)
    (exm : ∀ e ∈ hs, ∀ e' ∈ hs, PySem.W.exmOne K (.ref (He.ga K e.1)) (.ref (He.ga K e'.1)) = some (decide (e'.1 = e.1)))
    (hG : ∀ (cdv : Value) (X : Cx), X.prog = P → X.w = w → X.K = K → X.mg = mg → X.base = base → ∀ q, GivesTo X N x scope f cdv body a q (TR.TTried K N ok (hsA K hs)))
    (h1 : (a == ("__debug__" : Str)) = false := by decide) (h2 : (a == ("__classdict__" : Str)) = false := by decide) : GTr P w K mg base x ok hs := by
  have b := F.bindsN hb
  obtain ⟨oc, od, dV, kV, doc, pm, an, cdv, ct, osl, rfl, lk, hcd, _, _⟩ := F.ex
  exact ⟨⟨N, a, scope, f, oc, od, params, body, dV, kV, doc, pm, an, cdv, ct, osl, hg, F.kp, lk, hcd, b, Sc, h0, h2n, hv, h1, h2, hG cdv⟩, exm⟩
end DL
namespace DL
open PySem PySem.Spec PyProof.Rows L2 LamX
variable [TabC]
section
variable {P : Program} {w : World} {K : PySem.W.Frag} {mg : Str → Option Value} {base : Heap} {x : Str} {params : Arguments} {body : List Stmt} {scope : Scope} {dvs : List V} {kws : List (Str × V)} {f : Addr} {fd : FuncData}
end
end DL
namespace DL
open PySem PySem.Spec PyProof.Rows L2 LamX
variable [TabC]
end DL
namespace DL
open PySem PySem.Spec PyProof.Rows L2
variable [TabC]
section
variable {P : Program} {w : World} {K : PySem.W.Frag} {mg : Str → Option Value} {base : Heap} {x : Str} {params : Arguments} {body : List Stmt} {scope : Scope} {f : Addr} {fd : FuncData}
end
section
variable {X : Cx} {E : XK} {O : List Nat} {e o : Expr} {es : List Expr} {ml : EM (List D)} {mo : EM D} {pos p apos : Pos} {x C m : Str} {ps : List Str} {k k' : Nat} {sp : FSp} {dds : List D}
end
end DL
namespace DL
open PySem PySem.Spec PyProof.Rows L2
variable [TabC]
/-! d[k], y = a, b (d owned) -/
section
variable {X : Cx} {E : XK} {O OL : List Nat} {a b ix : Expr} {ma mb mk : EM D} {pos : Pos} {i j : Nat} {x y : Str}
end
end DL
namespace MD
open L2 PySem PySem.Spec PyProof.Rows SeqAt
variable {X : Cx}
def rSetM (X : Cx) : TSet := fun o i v H Q => ∃ a H', o = .ref a ∧ MPut X H a i v H' ∧ Q H'
theorem set_mix (hu : X.A.units + 9 < cLine) : PSet X (rSetM X) := by
  intro pins s σ H o i v ov iv u Q I ro ri rv h
  obtain ⟨a, H', eo, g, q⟩ := h
  subst eo
  cases (show ov = Value.ref a from ro)
  exact m_set hu I g ri rv fun s' I' => ⟨H', I', q⟩
end MD
namespace DL
open PySem PySem.Spec PyProof.Rows L2
variable [TabC]
/-! y, x[k] = a, b with x an owned mixed dict -/
def sMputN (i j : Nat) (mk ma mb : EM D) : SM := fun xq de s n => ma xq s n fun d1 n1 => mb xq s n1 fun d2 n2 => mk xq (s.set j (some d1)) n2 fun k n3 => ∃ kk kvs, mkey k = some kk ∧ (s.set j (some d1))[i]? = some (some (.dmx kvs)) ∧ kvs.length < LIM ∧ de.nx ((s.set j (some d1)).set i (some (.dmx (putM kvs kk k d2)))) n3
section
variable {X : Cx} {E : XK} {O OL : List Nat} {a b ix : Expr} {mk ma mb : EM D} {pos : Pos} {i j : Nat} {x y : Str}
theorem vs_mputN {px ps py pt : Pos} {kt k2 : Nat} {pt2 : Pos} (hu : X.A.units + 9 < cLine) (hw : X.w = TabC.w) (hi : i ∈ O) (hj : j ∉ O) (hij : i ≠ j) (hc : X.calm = true) (hN : X.N.Nodup) (hNi : X.N[i]? = some x) (hNj : X.N[j]? = some y) (hv : Vis X.env.scope x) (hy : Loc X.env.scope y)
    (hk : VE X E O ix mk) (ha : VE X E O a ma) (hb : VE X E O b mb)
    (hs : swapsWithSole [.Tuple [.Name y py, .Subscript (.Name x px) ix ps] kt pt] (.Tuple [a, b] k2 pt2) pos.line X.env = pure false := by rfl) (hw2 : swappedStores [.Tuple [.Name y py, .Subscript (.Name x px) ix ps] kt pt] (.Tuple [a, b] k2 pt2) X.env = pure none := by rfl)
    (h1 : (assignEach [.Tuple [.Name y py, .Subscript (.Name x px) ix ps] kt pt] X.env).map (·.2) = [assign (.Tuple [.Name y py, .Subscript (.Name x px) ix ps] kt pt) X.env] := by rfl)
    (hs1 : starEach [a, b] X.env = (false, eval a X.env) :: starEach [b] X.env := by rfl) (hs2 : starEach [b] X.env = (false, eval b X.env) :: starEach [] X.env := by rfl)
    (ha1 : (assignEach [.Name y py, .Subscript (.Name x px) ix ps] X.env).map (·.2) = assign (.Name y py) X.env :: (assignEach [.Subscript (.Name x px) ix ps] X.env).map (·.2) := by rfl) (ha2 : (assignEach [.Subscript (.Name x px) ix ps] X.env).map (·.2) = assign (.Subscript (.Name x px) ix ps) X.env :: (assignEach [] X.env).map (·.2) := by rfl)
    (hn : (assignEach [.Name y py, .Subscript (.Name x px) ix ps] X.env).length = 2 := by rfl) (hst : (assignEach [.Name y py, .Subscript (.Name x px) ix ps] X.env).findIdx? (·.1) = none := by rfl)
    (hsub : ∀ v, assign (.Subscript (.Name x px) ix ps) X.env v = (do
      let ov ← holding [v] (eval (.Name x px) X.env)
      let iv ← holding [v, ov] (eval ix X.env)
      standAt ps
      holding [v, ov, iv] (setItem ov iv v)
      release [v, ov, iv] []) := by intro _; rfl)
    (hfy : X.fn y = true ∨ X.env.scope.names.lookup y = some .local := by first | exact .inl rfl | exact .inr rfl | assumption)
    (hd : (x == ("__debug__" : Str)) = false := by decide) (hcd : (x == ("__classdict__" : Str)) = false := by decide) :
    VS X E O O OL (.Assign [.Tuple [.Name y py, .Subscript (.Name x px) ix ps] kt pt] (.Tuple [a, b] k2 pt2) pos) (sMputN i j mk ma mb) := by
  obtain ⟨mna, ta, pa, fa⟩ := ha
  obtain ⟨mnb, tb, pb, fb⟩ := hb
  obtain ⟨mnk, tk, pk, fk⟩ := hk
  refine ⟨_, ps_asg (pe_tup (pa_cons pa (pa_cons pb pa_nil hs2) hs1)) (pg_tup hc (pgs_cons (pg_name hN hNj hy hfy) (pgs_cons (pg_sub (pe_var hNi hv hd hcd) pk (MD.set_mix hu) hsub) pgs_nil ha2) ha1) hn hst) hs hw2 h1, fun aS A0 H0 σ H s n xq de De S L k h => ?_⟩
  refine fa aS A0 H0 σ H s n _ _ S L (mna _ _ _ _ _ (fun d1 n1 q v1 H1 k1 st1 r1 => ?_) h)
  have S1 := S.step k1 st1
  refine fb aS _ H0 σ H1 s n1 _ _ S1 L (mnb _ _ _ _ _ (fun d2 n2 q2 v2 H2 k2 st2 r2 => ?_) q)
  have S2 := S1.step k2 st2
  refine ⟨by rw [sizeLine_eq]; show 2 ≤ _; omega, fun p hp => ⟨p, [v1, v2], rfl, .inl (.inl upd_same), rfl, v1, [v2], rfl, ?_⟩⟩
  have kp : KpS aS H2 (upd H2 p (.tup [v1, v2])) := KpS.upd hp
  have S3 := S2.step kp (st2.upd hp)
  have r1' := (r1.kp k2 st1 AV.st).kp kp st2 AV.st
  have S3' := S3.set hj r1'
  obtain ⟨d0, a, e1, e2, _⟩ := S.ow i hi
  have e5 : (σ.set j (some v1))[i]? = some (some (.ref a)) := by rw [set_other hij]; exact e2
  refine ⟨v2, [], rfl, .ref a, e5, fk aS A0 H0 (σ.set j (some v1)) _ (s.set j (some d1)) n2 _ _ S3' L (mnk _ _ _ _ _ (fun dk n3 q3 u H3 k3 st3 r3 => ?_) q2)⟩
  obtain ⟨kk, kvs, z1, z2, z3, q3⟩ := q3
  have S4 := S3'.step k3 st3
  obtain ⟨a', ys, y1, y2, y3, y4⟩ := own_dmx S4 hi z2
  rw [e5] at y1
  cases y1
  obtain ⟨w1, w2⟩ := mkey_of z1
  have r2' := (r2.kp kp st2 AV.st).kp k3 (st2.upd hp) AV.st
  have r2'' : Rep X.K aS H3 (AV aS A0 O (σ.set j (some v1))) d2 v2 := by
    rw [AV.set hj]
    exact r2'
  have z := S4.mutM hi e5 y3 (y4.put ⟨w1, w2⟩ r3 r2'')
  exact ⟨a, _, rfl, ⟨ys, kk, by rw [hw]; exact y3, y4.keys, Rep.key _ _ _ w1 r3, w2, by rw [y4.len]; exact lim_lt z3, rfl⟩, rfl, k.nx _ _ _ _ (by rw [hw]; exact z) q3⟩
end
end DL
namespace MD
open L2 PySem PySem.Spec PyProof.Rows
/-! ### the rows of a locked mixed dict -/
structure LockedRows (s : Shared) (d : Addr) (o : Obj) (es : Array DictEntry) (ep : Nat) (ys : List EntV) : Prop where
  sys : (d == sysModules) = false
  raw : s.heap.DictRaw d es ep
  data : o.data = .dict es ep
  many : es.size = ys.length
  row : ∀ (n : Nat) (y : EntV), ys[n]? = some y → ∀ hn : n < es.size, RelV y.2.1 es[n].key ∧ RelV y.2.2 es[n].val
section
variable {Y : Cx} {ps : List (Addr × Obj)} {τ : L2.St} {G : Hp} {t : Shared} {d : Addr} {o : Obj} {ys : List EntV}
theorem lockedRows (J : Inv Y ps τ G t) (lk : G d = some (.frz o (MixO Y.w d ys))) : ∃ es ep, LockedRows t d o es ep ys := by
  obtain ⟨at_, inner⟩ := J.hok d _ lk
  obtain ⟨_, sys, xs, ⟨o2, es, ep, at2, ex, rows, list, _⟩, rel⟩ := (show MixP Y.w d ys t.heap from inner.1)
  cases at_.symm.trans at2
  have n1 : es.toList.length = xs.length := by rw [list, List.length_map]
  have n2 := Paired.length rel
  rw [Array.length_toList] at n1
  refine ⟨es, ep, sys, ⟨o, at_, ex, rows⟩, rows, n1.trans n2.symm, fun n y hy hn => ?_⟩
  obtain ⟨x, hx, r⟩ := paired_get rel hy
  have e : es.toList[n]? = some (entE Y.w x) := by rw [list, List.getElem?_map, hx]; rfl
  have e2 : es[n]? = some (entE Y.w x) := (Array.getElem?_toList ..).symm.trans e
  rw [Array.getElem?_eq_getElem hn] at e2
  rw [Option.some.inj e2]
  exact r.2
end
def ItmR (w : World) (d : Addr) (o : Obj) (ys : List EntV) : It where
  go n G := G d = some (.frz o (MixO w d ys)) ∧ n < ys.length
  yld := YPair (fun n => ys[n]?.map fun y => y.2.1) fun n => ys[n]?.map fun y => y.2.2
  stop n G := G d = some (.frz o (MixO w d ys)) ∧ ys.length ≤ n
theorem walk_rowsM {w : World} {d : Addr} {o : Obj} {ys : List EntV} : Walk (ItmR w d o ys) ys.length (fun G => G d = some (.frz o (MixO w d ys))) (YPair (fun n => ys[n]?.map fun y => y.2.1) fun n => ys[n]?.map fun y => y.2.2) where
  goes _ _ lt q := And.intro q lt
  stops _ q := And.intro q (Nat.le_refl _)
  yields _ _ _ _ _ _ z := z
theorem turn_rowsM {P : Program} {w : World} {K : PySem.W.Frag} {elts : List Expr} {kk : Nat} {tpos : Pos} {d : Addr} {o : Obj} {es : Array DictEntry} {ep : Nat} {ys : List EntV} (it : Addr) (rows : o.data = .dict es ep) :
    Turn P w K (.Tuple elts kk tpos) (ItmR w d o ys) [it] it (fun n h => ∃ a b, IsItemIter h it d n es.size ep a b) := by
  have one : ∀ {b : Addr}, b ∈ [it] → b = it := fun z => List.mem_singleton.mp z
  have me : it ∈ [it] := List.mem_singleton.mpr rfl
  have dat : ∀ {es2 : Array DictEntry} {ep2 : Nat}, o.data = .dict es2 ep2 → es2 = es ∧ ep2 = ep := fun z => by
    rw [rows] at z
    cases z
    exact ⟨rfl, rfl⟩
  refine ⟨me, fun n h ⟨a, b, e⟩ c hc => one hc ▸ ⟨_, e, fun v z => nomatch z⟩, fun n h h' ⟨a, b, e⟩ kept => ⟨a, b, kept it me _ e⟩, ?_, ?_, fun B n t Q E ⟨a, b, e⟩ q => PySem.W.kcp_self e q⟩
  · intro Y hP hw hK calm n ps t τ G E J far ⟨a, b, at_⟩ go
    cases hP; cases hw; cases hK
    obtain ⟨es2, ep2, L⟩ := lockedRows J go.1
    obtain ⟨rfl, rfl⟩ := dat L.data
    have hn : n < es2.size := by rw [L.many]; exact go.2
    obtain ⟨y, hy⟩ : ∃ y, ys[n]? = some y := ⟨_, List.getElem?_eq_getElem go.2⟩
    obtain ⟨r1, r2⟩ := L.row n _ hy hn
    have below : it < t.heap.objs.size := Heap.lt_size at_
    refine wpAny_pyNext_items_item_raw at_ L.raw hn fun h1 out tup _ but => ⟨_, rfl, wpAny_letOwnedTupleGo_items (s := { t with heap := h1 }) out fun h2 at2 same => ?_⟩
    have tup2 := (same.2 _ (Nat.ne_of_gt below)).trans tup
    have fresh := J.hok.fresh (Nat.le_refl t.heap.objs.size)
    have laid : ObjOk Y.prog Y.w (upd G t.heap.objs.size (.tup [y.2.1, y.2.2])) h2 t.heap.objs.size (.tup [y.2.1, y.2.2]) := ⟨show 2 ≤ sizeLine by decide, [_, _], .cons r1 (.cons r2 .nil), ⟨_, tup2, rfl, _, rfl⟩⟩
    have J2 := J.turnedNew (t' := t.toks) (ch := [it]) (fun c oc hc e => (same.2 c fun z => hc (z ▸ me)).trans (but c oc (fun z => hc (z ▸ me)) e)) far (Nat.le_refl _) laid
    refine ⟨.ref t.heap.objs.size, _, J2, rfl, ⟨_, _, _, rfl, fresh, rfl, by dsimp only; rw [hy]; rfl, by dsimp only; rw [hy]; rfl⟩, ⟨_, _, at2⟩, fun c hc => ?_⟩
    rw [one hc, upd_ne (Nat.ne_of_lt below)]
    exact (far it me).1
  · intro Y hP hw hK calm n ps t τ G E J far ⟨a, b, at_⟩ stop
    cases hP; cases hw; cases hK
    obtain ⟨es2, ep2, L⟩ := lockedRows J stop.1
    obtain ⟨rfl, rfl⟩ := dat L.data
    exact wpAny_pyNext_items_end_raw (J.ok.hd calm) at_ L.raw (by rw [L.many]; exact stop.2) fun h1 but => ⟨rfl, moved J (far it me) fun c oc hc e => but c oc hc e⟩
def iRowsX (X : Cx) (td : TE) : TI := fun σ H R => td σ H fun x H1 => ∃ d o ys, x = .ref d ∧ H1 d = some (.frz o (MixO X.w d ys)) ∧ R (ItmR X.w d o ys) H1
theorem pi_rowsX {X : Cx} {e : Expr} {td : TE} {elts : List Expr} {kk : Nat} {tpos apos cpos : Pos} (he : PE X e td) (hbase : attributeBase e "items" X.env (eval e X.env) = eval e X.env) (hline : (apos.endLine == cpos.line) = true) :
    PI X (.Tuple elts kk tpos) (.Call (.Attribute e "items" apos) [] [] cpos) (iRowsX X td) := PI.mk fun ps t τ G R J q => by
  refine wpAny_Call_method (T := "dict") (id := "dict.items") hbase rfl hline PySem.F.plainAttrs_dict PySem.F.slot_dict_items PySem.F.type_dict_items (thn (he.run ps t τ G _ J q) ?_)
  rintro u t1 ⟨x, G1, J1, rel, d, o, ys, ex, lk, r⟩
  cases ex
  cases rel
  obtain ⟨es, ep, L⟩ := lockedRows J1 lk
  obtain ⟨od, h1, h2, h3⟩ := id L.raw
  refine ⟨L.raw.typeIs, fun b z => (by cases z; exact ⟨od, h1, h2.2.1⟩), ?_⟩
  have J2 : Inv X ps τ G1 { t1 with heap := t1.heap.push { cls := .type "dict_items", data := .fields #[.ref d] } } := J1.kept (t' := t1.toks) fun b _ q => Heap.get?_push_of_some _ q
  have walk : wpAny (model X.prog X.w) X.A (pyIter (.ref t1.heap.objs.size)) (PIE X ps τ (.Tuple elts kk tpos) R) X.xe { t1 with heap := t1.heap.push { cls := .type "dict_items", data := .fields #[.ref d] } } :=
    wpAny_pyIter_items_raw (d := d) ⟨_, Heap.get?_push_size _ rfl, rfl, rfl⟩ (L.raw.at fun _ z => Heap.get?_push_of_some _ z) (pi_one (tk := t1.toks) J2 _ (turn_rowsM _ L.data) ⟨.none, .none, Heap.get?_push_size _ rfl⟩ r)
  show wpAny _ _ (callWith cpos (.builtin "dict.items") [.ref d] [] []) _ X.xe t1
  exact method_meetsIn PySem.F.slot_dict_items PySem.F.entry_dict_items rfl (PySem.evalArgs_none ⟨rfl, L.raw.typeIs, PySem.F.args_dict_items_1 _, _, meets_dict_items_raw d L.sys, ⟨es, ep, L.raw⟩, walk⟩)
end MD
namespace MD
open PySem PySem.Spec PyProof.Rows L2
/-! ### list(d), d a mixed dict; dict(pairs) with keys of all sorts -/
section
variable {prog : Program} {w : World} {d : Addr} {xs : List Ent}
theorem size_mix {es : Array DictEntry} (he : es.toList = xs.map (entE w)) : es.size = xs.length := by rw [← Array.length_toList, he, List.length_map]
theorem walks_mix {A : Around} (hh : A.handled = none) {I : Addr} (hne : d ≠ I) {o : Obj} {es : Array DictEntry} {ep : Nat} (hd : o.data = .dict es ep) (he : es.toList = xs.map (entE w)) :
    Walks prog w A I [I, d] [I] xs.length (fun i v => ∃ x, xs[i]? = some x ∧ v = x.2.1) (fun i h => h.IsKeyIter I d i es.size ep ∧ h.get? d = some o) where
  sub := fun b hb => by simp at hb; simp [hb]
  frame := fun _ _ _ st hk => ⟨st.1.at fun o e => hk I (by simp) o e, hk d (by simp) _ st.2⟩
  item := fun i s Q E hi st hQ => by
    have hx : xs[i]? = some xs[i] := List.getElem?_eq_getElem hi
    have hen : es[i]? = some (entE w xs[i]) := by rw [← Array.getElem?_toList, he, List.getElem?_map, hx]; rfl
    refine next_key_item st.1 st.2 hd rfl hen fun h' hit' hs' => ?_
    exact hQ _ h' s.toks ⟨_, hx, rfl⟩ ⟨hit', (hs'.2 d hne).trans st.2⟩ fun b o hb e => hs'.extBut b o (fun h => hb (by simp [h])) e
  done := fun s Q E st hQ => next_key_end hh st.1 st.2 hd rfl (Nat.le_of_eq (size_mix he)) fun h' he' => hQ h' s.toks fun b o hb e => he' b o (fun h => hb (by simp [h])) e
  self := fun _ _ _ _ st hQ => wpAny_pyIter_keyiter st.1 hQ
theorem kdl_mix (lo : (d == sysModules) = false) : PySem.W.KdlSrc prog w "dict" d d xs.length (fun i v => ∃ x, xs[i]? = some x ∧ v = x.2.1) (fun h => Dic w h d xs) where
  type := fun _ hm => typ hm
  there := fun _ hm => let ⟨_, _, _, ho, _⟩ := hm; ⟨Heap.lt_size ho, Heap.lt_size ho⟩
  keep := fun _ _ hm hk => let ⟨o, es, ep, ho, r⟩ := hm; ⟨o, es, ep, hk d (.inl rfl) _ ho, r⟩
  notList := by decide
  notTuple := by decide
  hint := fun _ _ _ _ hm hq => PySem.W.kdl_hint_dict (typ hm) hq
  iter := fun A s hh hm => by
    obtain ⟨o, es, ep, ho, hc, hd, he, hn⟩ := hm
    exact ⟨_, _, fun E Q hq => iter_keys lo ho hc hd hq, walks_mix hh (Nat.ne_of_lt (Heap.lt_size ho)) hd he, ⟨_, Heap.get?_push_size _ rfl, rfl, rfl⟩, Heap.get?_push_of_some _ ho⟩
end
section
variable {X : Cx}
theorem vals_keys {ys : List EntV} {xs : List Ent} {acc : Array Value} (p : Paired RelE ys xs) (len : acc.size = xs.length) (each : ∀ (j : Nat) (v : Value), acc[j]? = some v → ∃ x, xs[j]? = some x ∧ v = x.2.1) : Vals (ys.map (·.2.1)) acc.toList :=
  vals_of_at (by simp [len, Paired.length p]) fun j y v ey ev => by
    obtain ⟨x, ex, rfl⟩ := each j v (by rwa [Array.getElem?_toList] at ev)
    rw [List.getElem?_map] at ey
    obtain ⟨z, hz, rfl⟩ := Option.map_eq_some_iff.mp ey
    obtain ⟨x', hx', r⟩ := paired_get p hz
    rw [ex] at hx'
    cases hx'
    exact r.2.1
theorem call_listM (hc : X.calm = true) : CallR X (.type "list") (fun vs H Q => ∃ p ys, vs = [.ref p] ∧ Rd H p (MixO X.w p ys) ∧ ∀ q, H q = none → Q (.ref q) (upd H q (.lst (ys.map (·.2.1))))) :=
  fun pins s σ H _ _ Q inv rel ⟨p, ys, ex, rd, q⟩ => by
    subst ex
    obtain ⟨u, eu, ru⟩ := vals1 rel
    subst eu
    cases ru
    obtain ⟨few, notSys, xs, dict, pr⟩ := mix_rd inv rd
    have hl := Paired.length pr
    refine PySem.W.kdl_call (kdl_mix notSys) (inv.ok.hd hc) dict (hl ▸ few) fun h' tk acc c' same made got => ?_
    have new : ObjOk X.prog X.w (upd H s.heap.objs.size (.lst (ys.map (·.2.1)))) h' s.heap.objs.size (.lst (ys.map (·.2.1))) := ⟨by simpa using few, _, c', vals_keys pr got.1 got.2, by simpa using made⟩
    exact ⟨.ref s.heap.objs.size, _, inv.laid same (Nat.le_refl _) new, rfl, q _ (inv.hok.fresh (Nat.le_refl _))⟩
end
/-! pairs -/
def mergeV (acc ys : List EntV) : List EntV := ys.foldl (fun a y => putV a y.1 y.2.1 y.2.2) acc
def mergeX (acc xs : List Ent) : List Ent := xs.foldl (fun a x => putX a x.1 x.2.1 x.2.2) acc
theorem rel_merge : ∀ {ys : List EntV} {xs : List Ent} {a : List EntV} {b : List Ent}, Paired RelE ys xs → Paired RelE a b → Paired RelE (mergeV a ys) (mergeX b xs)
  | _, _, _, _, .nil, q => q
  | y :: ys, x :: xs, a, b, .cons r t, q => rel_merge (ys := ys) (xs := xs) t (by
      show Paired RelE (putV a y.1 y.2.1 y.2.2) (putX b x.1 x.2.1 x.2.2)
      rw [r.1]
      exact rel_put r.2.2 r.2.1 q)
theorem putX_len {xs : List Ent} {k : NK} {kv v : Value} : (putX xs k kv v).length ≤ xs.length + 1 := by
  unfold putX
  split
  · rw [List.length_map]; omega
  · rw [List.length_append]; exact Nat.le_refl _
theorem mergeX_len : ∀ (xs acc : List Ent), (mergeX acc xs).length ≤ acc.length + xs.length
  | [], acc => Nat.le_refl _
  | x :: xs, acc => by
    have h := mergeX_len xs (putX acc x.1 x.2.1 x.2.2)
    have h2 := putX_len (xs := acc) (k := x.1) (kv := x.2.1) (v := x.2.2)
    show (mergeX (putX acc x.1 x.2.1 x.2.2) xs).length ≤ _
    rw [List.length_cons]
    omega
theorem mergeV_len : ∀ (xs acc : List EntV), (mergeV acc xs).length ≤ acc.length + xs.length
  | [], acc => Nat.le_refl _
  | x :: xs, acc => by
    have h := mergeV_len xs (putV acc x.1 x.2.1 x.2.2)
    have h2 := put_len (ys := acc) (k := x.1) (kv := x.2.1) (v := x.2.2)
    show (mergeV (putV acc x.1 x.2.1 x.2.2) xs).length ≤ _
    rw [List.length_cons]
    omega
theorem kok_put {h : Heap} {xs : List Ent} {k : NK} {kv v : Value} (a : Kok h xs) (b : NestedIs h k kv ∧ k.depth ≤ 8) : Kok h (putX xs k kv v) := fun z hz => by
  unfold putX at hz
  split at hz
  · obtain ⟨y, hy, rfl⟩ := List.mem_map.mp hz
    have := a y hy
    unfold setX
    split
    · exact this
    · exact this
  · rcases List.mem_append.mp hz with hz | hz
    · exact a z hz
    · rw [List.mem_singleton] at hz
      subst hz
      exact b
theorem kok_merge {h : Heap} : ∀ {xs acc : List Ent}, Kok h acc → Kok h xs → Kok h (mergeX acc xs)
  | [], _, a, _ => a
  | x :: xs, _, a, b => kok_merge (xs := xs) (kok_put a (b x List.mem_cons_self)) fun z hz => b z (List.mem_cons_of_mem _ hz)
theorem mergeX_take {xs : List Ent} {i : Nat} {x : Ent} (h : xs[i]? = some x) : mergeX [] (xs.take (i + 1)) = putX (mergeX [] (xs.take i)) x.1 x.2.1 x.2.2 := by
  unfold mergeX
  rw [List.take_succ, h, List.foldl_append]
  rfl
theorem kok_at {h h' : Heap} {xs : List Ent} (k : ∀ b o, h.get? b = some o → h'.get? b = some o) (a : Kok h xs) : Kok h' xs := fun z hz => ⟨NestedIs.at (fun b o _ _ e _ => k b o e) _ _ (a z hz).1, (a z hz).2⟩
section
variable {prog : Program} {w : World} {A : Around} {E : Value → Shared → Prop}
theorem call_dict_mix {s : Shared} {l : Addr} {its : Array Value} {n : Nat} {ol : Obj} {Ts : Nat → Addr} {xs : List Ent} {Q : Value → Shared → Prop} (hu : A.units + 10 < cLine) (hh : A.handled = none) (hl : s.heap.get? l = some ol) (hc : ol.cls = .type "list") (hd : ol.dict = none) (hdat : ol.data = .seq its n)
    (hsz : its.size = xs.length) (hln : xs.length ≤ sizeLine) (ht : ∀ (j : Nat) (x : Ent), xs[j]? = some x → its[j]? = some (.ref (Ts j)) ∧ s.heap.IsTuple (Ts j) #[x.2.1, x.2.2]) (hk : Kok s.heap xs)
    (h : ∀ h' tk, Dic w h' s.heap.objs.size (mergeX [] xs) → (∀ b o, s.heap.get? b = some o → h'.get? b = some o) → Q (.ref s.heap.objs.size) { s with heap := h', toks := tk }) : wpAny (model prog w) A (call (.type "dict") [.ref l]) Q E s := by
  have at_ : ∀ {j : Nat} {k v : Value}, (xs.map fun x => (x.2.1, x.2.2))[j]? = some (k, v) → ∃ x, xs[j]? = some x ∧ x.2.1 = k ∧ x.2.2 = v := fun {j k v} e => by
    rw [List.getElem?_map] at e
    obtain ⟨x, hx, e2⟩ := Option.map_eq_some_iff.mp e
    cases e2
    exact ⟨x, hx, rfl, rfl⟩
  have P := PairArg.list (prog := prog) (w := w) l its Ts (xs.map fun x => (x.2.1, x.2.2))
  have ok : PlainSeq "list" s.heap l its ∧ PairItems s.heap its Ts (xs.map fun x => (x.2.1, x.2.2)) := ⟨⟨ol, n, hl, hc, hd, hdat⟩, by rw [List.length_map]; exact hsz, fun j k v e => by
    obtain ⟨x, hx, rfl, rfl⟩ := at_ e
    exact ⟨(ht j x hx).1, .inl (ht j x hx).2⟩⟩
  refine call_dict_arg P ok fun s₁ hs₁ hdf ok₁ => ?_
  subst hs₁
  refine updateFrom_arg (Tab := fun i h => Dic w h s.heap.objs.size (mergeX [] (xs.take i)) ∧ ∀ b o, s.heap.get? b = some o → h.get? b = some o) P _ hh ok₁ hdf ⟨⟨_, #[], 0, Heap.get?_push_size _ rfl, ⟨rfl, rfl, rfl⟩, rfl, rfl, List.nodup_nil⟩, fun b o e => Heap.get?_push_of_some _ e⟩
    (fun i h tb => let ⟨_, _, _, ho, _⟩ := tb.1; Heap.lt_size ho) ?_ ?_ ?_
  · intro i h0 h' wr' hd' hw' tb hk'
    refine ⟨let ⟨o, es, ep, ho, r⟩ := tb.1; ⟨o, es, ep, hk' _ _ hd' ho, r⟩, fun b o e => hk' b o (fun hm => ?_) (tb.2 b o e)⟩
    rcases hw' b hm with q | q
    · exact nomatch q
    · rw [Heap.get?_push_of_some _ e] at q
      cases q
  · intro i k v s' Q' E' hi hrel tb _ hQ
    obtain ⟨x, hx, rfl, rfl⟩ := at_ hrel
    have hm := List.mem_of_getElem? hx
    have kk := kok_at tb.2 hk
    refine put (by rw [Around.in1_units, Around.in1_units]; omega) tb.1 (kok_merge (fun z hz => nomatch hz) fun z hz => kk z (List.mem_of_mem_take hz)) (kk x hm).1 (kk x hm).2 ?_ fun h' d' sb => hQ h' _ ⟨by rw [mergeX_take hx]; exact d', fun b o e => sb.extBut b o (Nat.ne_of_lt (Heap.lt_size e)) (tb.2 b o e)⟩ sb
    have := mergeX_len (xs.take i) []
    rw [List.length_nil, List.length_take] at this
    omega
  · intro h' tk tb hk'
    rw [List.length_map, List.take_length] at tb
    exact ⟨rfl, h h' tk tb.1 tb.2⟩
end
section
variable {X : Cx} {pins : List (Addr × Obj)} {σ : L2.St} {H : Hp} {s : Shared}
theorem pairs_ofM (I : Inv X pins σ H s) : ∀ {ps : List Addr} {ys : List EntV}, Paired (fun p (y : EntV) => SqT X.K H p [y.2.1, y.2.2]) ps ys →
    ∃ xs : List Ent, Paired RelE ys xs ∧ xs.length = ps.length ∧ ∀ (j : Nat) (x : Ent), xs[j]? = some x → ∃ b : Addr, ps[j]? = some b ∧ s.heap.IsTuple b #[x.2.1, x.2.2]
  | _, _, .nil => ⟨[], .nil, rfl, fun j x e => by simp at e⟩
  | _, _, .cons (a := p) (b := y) h t => by
    obtain ⟨xs, r, hl, hp⟩ := pairs_ofM I t
    obtain ⟨its, rv, ⟨o, h1, h2, n, h3⟩, _⟩ := I.tuple h
    obtain ⟨u, z, ei, ru, rz⟩ := vals2 rv
    refine ⟨(y.1, u, z) :: xs, .cons ⟨rfl, ru, rz⟩ r, by rw [List.length_cons, List.length_cons, hl], fun j x e => ?_⟩
    cases j with
    | zero =>
      have e' : (y.1, u, z) = x := Option.some.inj e
      subst e'
      refine ⟨p, rfl, o, h1, h2, n, ?_⟩
      rw [h3]
      congr
    | succ j =>
      obtain ⟨b, e1, e2⟩ := hp j x (by simpa using e)
      exact ⟨b, by simpa using e1, e2⟩
end
/-- dict(l), l a list of pairs -/
theorem call_dictMP {X : Cx} (hu : X.A.units + 10 < cLine) (hcalm : X.calm = true) : CallR X (.type "dict") (fun vs H Q => ∃ (a : Addr) (ps : List Addr) (ys : List EntV), vs = [.ref a] ∧ SqL X.K H a (ps.map V.ref) ∧ Paired (fun p (y : EntV) => SqT X.K H p [y.2.1, y.2.2]) ps ys ∧ Keys X.K H ys ∧
    ∀ p, H p = none → Q (.ref p) (upd H p (MixO X.w p (mergeV [] ys)))) := by
  intro pins s σ H vs us Q I r q
  obtain ⟨a, ps, ys, ex, hq, hp, hK, q⟩ := q
  subst ex
  obtain ⟨u, eu, rx⟩ := vals1 r
  subst eu
  cases rx
  obtain ⟨its, rv, pl, hz⟩ := I.list hq
  have ei := refs_at rv
  rw [List.length_map] at hz
  obtain ⟨xs, rel, hl, hpr⟩ := pairs_ofM I hp
  obtain ⟨o, n, ho, hc, hd, hdat⟩ := pl
  have sz : its.length = ps.length := by rw [ei, List.length_map]
  refine call_dict_mix (Ts := fun j => ps.getD j 0) (xs := xs) hu (I.ok.hd hcalm) ho hc hd hdat (by simp [ei, hl]) (by rw [hl]; exact hz) (fun j x e => ?_) (kok_of I hK rel) fun h' tk hd' k => ?_
  · obtain ⟨b, e1, e2⟩ := hpr j x e
    have eb : ps.getD j 0 = b := by rw [List.getD_eq_getElem?_getD, e1]; rfl
    refine ⟨?_, by rw [eb]; exact e2⟩
    rw [eb]
    simp [ei, e1]
  · have hm : (s.heap.objs.size == sysModules) = false := beq_eq_false_iff_ne.mpr (Nat.ne_of_gt I.big)
    have hlen : (mergeV [] ys).length ≤ sizeLine := by
      refine Nat.le_trans (mergeV_len ys []) ?_
      rw [List.length_nil, Nat.zero_add, Paired.length rel, hl]
      exact hz
    exact ⟨.ref s.heap.objs.size, _, I.laid (t' := tk) k (Nat.le_refl _) (mixOk ⟨hlen, hm, _, hd', rel_merge rel .nil⟩), rfl, q _ (I.hok.fresh (Nat.le_refl _))⟩
end MD
namespace DL
open PySem PySem.Spec PyProof.Rows L2
variable [TabC]
/-! ### a mixed dict that is walked is locked meanwhile -/
section
variable {K : PySem.W.Frag} {aS a b m : Addr} {H H' H0 : Hp} {A : AS} {A0 : A0T} {O : List Nat} {σ σ' : L2.St} {s s' : Ev} {n n' : Nat} {ys : List MD.EntV} {o : Obj}
theorem sub_lockM (hb : H b = some (MD.MixO TabC.w m ys)) : Sub K H (upd H b (.frz o (MD.MixO TabC.w m ys))) A A := by
  have up : ∀ c u, H c = some u → c ≠ b → upd H b (.frz o (MD.MixO TabC.w m ys)) c = some u := fun c u q z => by rw [upd_ne z]; exact q
  refine ⟨fun c xs h q => ⟨h, up _ _ q fun z => ?_⟩, fun c xs q => q.elim (fun q => .inl (up _ _ q fun z => ?_)) .inr, fun c zs h q => ⟨h, ?_⟩, fun c zs h q => ⟨h, ?_⟩, fun c C dx zs h q => ⟨h, up _ _ q fun z => ?_⟩, fun c u hu h q => ⟨h, up _ _ q fun z => by rw [z, hb] at q; first | exact hu.nmix (Option.some.inj q).symm | exact hu.nfrz _ _ (Option.some.inj q).symm⟩⟩
  · rw [z, hb] at q; unfold MD.MixO at q; cases q
  · rw [z, hb] at q; unfold MD.MixO at q; cases q
  · rcases q with q | ⟨o', q⟩
    · exact .inl (up _ _ q fun z => by rw [z, hb] at q; unfold MD.MixO at q; cases q)
    · exact .inr ⟨o', up _ _ q fun z => by rw [z, hb] at q; unfold MD.MixO at q; cases q⟩
  · rcases q with q | ⟨o', q⟩
    · by_cases z : c = b
      · subst z
        rw [hb] at q
        rw [Option.some.inj q]
        exact .inr ⟨o, upd_same⟩
      · exact .inl (up _ _ q z)
    · exact .inr ⟨o', up _ _ q fun z => by rw [z, hb] at q; unfold MD.MixO at q; cases q⟩
  · rw [z, hb] at q; unfold MD.MixO at q; cases q
theorem sub_unlockM (hb : H b = some (.frz o (MD.MixO TabC.w m ys))) : Sub K H (upd H b (MD.MixO TabC.w m ys)) A A := by
  have up : ∀ c u, H c = some u → c ≠ b → upd H b (MD.MixO TabC.w m ys) c = some u := fun c u q z => by rw [upd_ne z]; exact q
  refine ⟨fun c xs h q => ⟨h, up _ _ q fun z => ?_⟩, fun c xs q => q.elim (fun q => .inl (up _ _ q fun z => ?_)) .inr, fun c zs h q => ⟨h, ?_⟩, fun c zs h q => ⟨h, ?_⟩, fun c C dx zs h q => ⟨h, up _ _ q fun z => ?_⟩, fun c u hu h q => ⟨h, up _ _ q fun z => by rw [z, hb] at q; first | exact hu.nmix (Option.some.inj q).symm | exact hu.nfrz _ _ (Option.some.inj q).symm⟩⟩
  · rw [z, hb] at q; unfold MD.MixO at q; cases q
  · rw [z, hb] at q; unfold MD.MixO at q; cases q
  · rcases q with q | ⟨o', q⟩
    · exact .inl (up _ _ q fun z => by rw [z, hb] at q; unfold MD.MixO at q; cases q)
    · exact .inr ⟨o', up _ _ q fun z => by rw [z, hb] at q; unfold MD.MixO at q; cases q⟩
  · rcases q with q | ⟨o', q⟩
    · exact .inl (up _ _ q fun z => by rw [z, hb] at q; unfold MD.MixO at q; cases q)
    · by_cases z : c = b
      · subst z
        rw [hb] at q
        have e := Option.some.inj q
        injection e with e1 e2
        rw [e2]
        exact .inl upd_same
      · exact .inr ⟨o', up _ _ q z⟩
  · rw [z, hb] at q; unfold MD.MixO at q; cases q
theorem StA.lockM (st : StA K aS H n) (hb : H b = some (MD.MixO TabC.w m ys)) : StA K aS (L2.upd H b (.frz o (MD.MixO TabC.w m ys))) n := by
  obtain ⟨a0, cs, i, g, m, d, e, h1, ⟨ob, h2⟩, h3, h4, h5, h6, h7, h8, h9⟩ := st
  refine ⟨a0, cs, i, g, m, d, ?_, h1, ⟨ob, ?_⟩, h3, h4, h5, h6, h7, h8, tabs_poke h9 hb (fun _ z => by unfold MD.MixO at z; cases z) (fun _ _ => MD.mix_ne)⟩
  · rw [upd_ne (show aS ≠ b from fun z => by rw [z, hb] at e; unfold MD.MixO at e; cases e)]; exact e
  · rw [upd_ne (show a0 ≠ b from fun z => by rw [z, hb] at h2; unfold MD.MixO at h2; cases h2)]; exact h2
theorem StA.unlockM (st : StA K aS H n) (hb : H b = some (.frz o (MD.MixO TabC.w m ys))) : StA K aS (L2.upd H b (MD.MixO TabC.w m ys)) n := by
  obtain ⟨a0, cs, i, g, m, d, e, h1, ⟨ob, h2⟩, h3, h4, h5, h6, h7, h8, h9⟩ := st
  refine ⟨a0, cs, i, g, m, d, ?_, h1, ⟨ob, ?_⟩, h3, h4, h5, h6, h7, h8, tabs_poke h9 hb (fun _ z => nomatch z) (fun _ _ z => by unfold LamX.CodeO at z; cases z) (fun _ z => by unfold MD.MixO at z; cases z)⟩
  · rw [upd_ne (show aS ≠ b from fun z => by rw [z, hb] at e; cases e)]; exact e
  · rw [upd_ne (show a0 ≠ b from fun z => by rw [z, hb] at h2; cases h2)]; exact h2
theorem SR.lockM (S : SR K aS O A0 H0 σ H s n) (hn : ¬ AV aS A0 O σ b) (hb : H b = some (MD.MixO TabC.w m ys)) : SR K aS O A0 (bare O σ (upd H b (.frz o (MD.MixO TabC.w m ys)))) σ (upd H b (.frz o (MD.MixO TabC.w m ys))) s n where
  len := S.len
  sh := fun i d h1 h2 => let ⟨v, e, r⟩ := S.sh i d h1 h2; ⟨v, e, Rep.mono (sub_lockM hb) _ _ r⟩
  ow := fun i h => by
    obtain ⟨d, a, e1, e2, e3, e4, e5, e6⟩ := S.ow i h
    refine ⟨d, a, e1, e2, bare_own ⟨i, h, e2⟩, e4, e5, e6.mv (sub_lockM hb) fun u e _ => ?_⟩
    rw [upd_ne (show a ≠ b from fun z => hn (.inr (.inr ⟨i, h, z ▸ e2⟩)))]
    exact e
  ds := S.ds
  fr := fun c u e _ => .of (bare_some e)
  st := S.st.lockM hb
  av := fun c h => by
    obtain ⟨u, e⟩ := S.av c h
    by_cases z : c = b
    · exact ⟨_, by rw [z]; exact upd_same⟩
    · exact ⟨u, by rw [upd_ne z]; exact e⟩
  pn := S.pn
theorem SR.leLM (S : SR K aS O A0 H0 σ H s n) (hb : H b = some (MD.MixO TabC.w m ys)) : ∀ c u, H0 c = some u → c ≠ aS → c ≠ b → Kp1 u (bare O σ (upd H b (.frz o (MD.MixO TabC.w m ys))) c) := fun c u e z1 z2 => by
  have h := S.le c u e z1
  have hn : ¬ ∃ i, i ∈ O ∧ σ[i]? = some (some (.ref c)) := fun y => by
    obtain ⟨v, q⟩ := h.dom
    rw [bare_own y] at q
    cases q
  rw [bare_not hn] at h
  rw [bare_not hn, upd_ne z2]
  exact h
theorem SR.unkpM (S : SR K aS O A0 H0 σ H s n) (hb : H b = some (MD.MixO TabC.w m ys)) (k : KpS aS (bare O σ (upd H b (.frz o (MD.MixO TabC.w m ys)))) H') : KpS aS H0 (upd H' b (MD.MixO TabC.w m ys)) := fun c u e z => by
  by_cases y : c = b
  · have h := S.fr c u e z
    rw [y, hb] at h
    rw [y, upd_same]
    exact h
  · rw [upd_ne y]
    exact (S.leLM hb c u e z y).trans fun v e' => k c v e' z
theorem SR.atLM (S : SR K aS O A0 H0 σ H s n) (hn : ¬ AV aS A0 O σ b) (hb : H b = some (MD.MixO TabC.w m ys)) (k : KpS aS (bare O σ (upd H b (.frz o (MD.MixO TabC.w m ys)))) H') : H' b = some (.frz o (MD.MixO TabC.w m ys)) :=
  k b (.frz o (MD.MixO TabC.w m ys)) ((bare_not fun z => hn (.inr (.inr z))).trans upd_same) fun z => hn (.inr (.inl z))
theorem SR.unlockM (S : SR K aS O A0 H0 σ H s n) (hn : ¬ AV aS A0 O σ b) (hb : H b = some (MD.MixO TabC.w m ys)) {O' : List Nat} (S' : SR K aS O' A0 (bare O σ (upd H b (.frz o (MD.MixO TabC.w m ys)))) σ' H' s' n') : SR K aS O' A0 H0 σ' (upd H' b (MD.MixO TabC.w m ys)) s' n' where
  len := S'.len
  sh := fun i d h1 h2 => let ⟨v, e, r⟩ := S'.sh i d h1 h2; ⟨v, e, Rep.mono (sub_unlockM (S.atLM hn hb S'.fr)) _ _ r⟩
  ow := fun i h => by
    obtain ⟨d, a, e1, e2, e3, e4, e5, e6⟩ := S'.ow i h
    refine ⟨d, a, e1, e2, Option.eq_none_iff_forall_ne_some.mpr fun u z => ?_, e4, e5, e6.mv (sub_unlockM (S.atLM hn hb S'.fr)) fun u e nf => ?_⟩
    · by_cases y : a = b
      · rw [y, bare_not fun z => hn (.inr (.inr z)), upd_same] at e3
        cases e3
      · obtain ⟨v, q⟩ := (S.leLM hb a u z e5 y).dom
        rw [e3] at q
        cases q
    · have ne : a ≠ b := fun z => by
        rw [z, S.atLM hn hb S'.fr] at e
        cases e
        exact nf _ _ rfl
      rw [upd_ne ne]
      exact e
  ds := S'.ds
  fr := S.unkpM hb S'.fr
  st := S'.st.unlockM (S.atLM hn hb S'.fr)
  av := fun c h => by
    obtain ⟨u, e⟩ := S'.av c h
    by_cases z : c = b
    · exact ⟨_, by rw [z]; exact upd_same⟩
    · exact ⟨u, by rw [upd_ne z]; exact e⟩
  pn := S'.pn
end
end DL
namespace DL
open PySem PySem.Spec PyProof.Rows L2
variable [TabC]
/-! ### walks over a mixed dict -/
def VDM (X : Cx) (O : List Nat) (tg iter : Expr) (p : Ev → Option D) (f : List (D × D) → List D) : Prop := ∃ (pv : L2.St → Hp → V → Prop) (J : Addr → Obj → List MD.EntV → It), PI X tg iter (fun σ H R => ∃ d o ys, pv σ H (.ref d) ∧ H d = some (.frz o (MD.MixO TabC.w d ys)) ∧ R (J d o ys) H) ∧
  (∀ (aS : Addr) (A0 : A0T) (H0 : Hp) (σ : L2.St) (H : Hp) (s : Ev) (n : Nat) (d : D), SR X.K aS O A0 H0 σ H s n → p s = some d → ∃ v, pv σ H v ∧ Rep X.K aS H (AV aS A0 O σ) d v) ∧
  (∀ σ H b o u v, H b = some u → Plain0 u → pv σ H v → pv σ (upd H b (.frz o u)) v) ∧
  ∀ (aS : Addr) (A0 : A0T) (H0 : Hp) (σ : L2.St) (H : Hp) (s : Ev) (n : Nat) b o ys kvs, SR X.K aS O A0 H0 σ H s n → ¬ AV aS A0 O σ b → H b = some (.frz o (MD.MixO TabC.w b ys)) → RepP X.K aS H (AV aS A0 O σ) kvs ys → ItOk X.K aS A0 (f kvs) (J b o ys) (bare O σ H)
def keysM (kvs : List (D × D)) : List D := kvs.map (·.1)
def rowsM (kvs : List (D × D)) : List D := kvs.map fun kv => .tup [kv.1, kv.2]
theorem plain_mix {w : World} {a : Addr} {ys : List MD.EntV} : Plain0 (MD.MixO w a ys) := ⟨fun _ _ _ z => (by unfold MD.MixO at z; cases z), fun _ z => (by unfold MD.MixO at z; cases z), fun _ _ z => (by unfold MD.MixO at z; cases z)⟩
theorem RepP.at {K : PySem.W.Frag} {aS : Addr} {H : Hp} {A : AS} : ∀ {ds : List (D × D)} {ys : List MD.EntV} {i : Nat} {y : MD.EntV}, RepP K aS H A ds ys → ys[i]? = some y → ∃ p, ds[i]? = some p ∧ Rep K aS H A p.1 y.2.1 ∧ Rep K aS H A p.2 y.2.2
  | [], ys, i, y, h, e => by rw [RepP] at h; rw [h] at e; simp at e
  | (k, d) :: ds, ys, i, y, h, e => by
    rw [RepP] at h
    obtain ⟨nk, kv, v, vr, rfl, _, rk, rd, q⟩ := h
    cases i with
    | zero =>
      simp at e
      subst e
      exact ⟨(k, d), rfl, rk, rd⟩
    | succ i => exact RepP.at (ds := ds) (ys := vr) (i := i) q (by simpa using e)
section
variable {X : Cx} {E : XK} {O OB OL vs hid : List Nat} {tg e iter kx : Expr} {ifs : List Expr} {m me mk : EM D} {mi : EM (List D)} {mt : EM Bool} {mb : SM} {g : DG} {scope : Scope} {pos : Pos}
theorem vd_keysX {p : Ev → Option D} (hw : X.w = TabC.w) (h : VP X O e p) : VDM X O tg e p keysM := by
  obtain ⟨t, pe, pv, h1, h2, h3⟩ := h
  refine ⟨pv, MD.Itm TabC.w, ⟨fun pins s σ H R I ⟨d, o, ys, e1, e2, q⟩ => (MD.pi_keysX pe).run pins s σ H R I (h1 σ H _ _ e1 ⟨d, o, ys, rfl, by rw [hw]; exact e2, by rw [hw]; exact q⟩)⟩, h2, h3, fun aS A0 H0 σ H s n b o ys kvs S hn hb r => ?_⟩
  have hl : (keysM kvs).length = ys.length := by rw [keysM, List.length_map, r.len]
  refine ⟨_, _, hl ▸ MD.walk_keysM, fun H1 k => frz_on (K := X.K) hn hb k, fun i H1 x H2 n A hi k st hF y => ?_⟩
  obtain ⟨e, z, ez, ex⟩ := y
  subst e ex
  obtain ⟨q, eq, r1, _⟩ := RepP.at (RepP.mono (S.onBase k hF) _ _ r) ez
  exact ⟨Gr.refl _, q.1, by rw [keysM, List.getElem?_map, eq]; rfl, r1⟩
theorem vd_rowsX {p : Ev → Option D} {elts : List Expr} {kk : Nat} {tpos apos cpos : Pos} (hw : X.w = TabC.w) (h : VP X O e p) (hbase : attributeBase e "items" X.env (eval e X.env) = eval e X.env := by rfl) (hline : (apos.endLine == cpos.line) = true := by rfl) : VDM X O (.Tuple elts kk tpos) (.Call (.Attribute e "items" apos) [] [] cpos) p rowsM := by
  obtain ⟨t, pe, pv, h1, h2, h3⟩ := h
  refine ⟨pv, MD.ItmR TabC.w, ⟨fun pins s σ H R I ⟨d, o, ys, e1, e2, q⟩ => (MD.pi_rowsX pe hbase hline).run pins s σ H R I (h1 σ H _ _ e1 ⟨d, o, ys, rfl, by rw [hw]; exact e2, by rw [hw]; exact q⟩)⟩, h2, h3, fun aS A0 H0 σ H s n b o ys kvs S hn hb r => ?_⟩
  refine it_ypair MD.walk_rowsM (by rw [rowsM, List.length_map, r.len]) (fun H1 k => frz_on (K := X.K) hn hb k) fun i H1 A x y hi k hF ex ey => ?_
  obtain ⟨z, ez, rfl⟩ := Option.map_eq_some_iff.mp ex
  obtain ⟨z', ez', rfl⟩ := Option.map_eq_some_iff.mp ey
  rw [ez] at ez'
  cases ez'
  obtain ⟨q, eq, r1, r2⟩ := RepP.at (RepP.mono (S.onBase k hF) _ _ r) ez
  exact ⟨q.1, q.2, by rw [rowsM, List.getElem?_map, eq]; rfl, r1, r2⟩
theorem kp_unlockM {aS b : Addr} {H H' : Hp} {o : Obj} {ys : List MD.EntV} (hb : H b = some (MD.MixO TabC.w b ys)) (k : KpS aS (upd H b (.frz o (MD.MixO TabC.w b ys))) H') : KpS aS H (upd H' b (MD.MixO TabC.w b ys)) := fun c u e z => by
  by_cases y : c = b
  · rw [y, hb] at e
    cases e
    rw [y]
    exact Kp1.of upd_same
  · rw [upd_ne y]
    exact k c u (by rw [upd_ne y]; exact e) z
theorem LK.unlockM {K : PySem.W.Frag} {aS b : Addr} {A0 : A0T} {H0 H : Hp} {σ : L2.St} {s : Ev} {n : Nat} {o : Obj} {ys : List MD.EntV} {de : DE} {De : Ends} {O O' : List Nat} (S : SR K aS O A0 H0 σ H s n) (hn : ¬ AV aS A0 O σ b) (hb : H b = some (MD.MixO TabC.w b ys)) (k : LK K aS O' OL A0 H0 de De) :
    LK K aS O' OL A0 (bare O σ (upd H b (.frz o (MD.MixO TabC.w b ys)))) de ⟨fun σ' H' => H' b = some (.frz o (MD.MixO TabC.w b ys)) ∧ De.nx σ' (upd H' b (MD.MixO TabC.w b ys)), fun v H' => H' b = some (.frz o (MD.MixO TabC.w b ys)) ∧ De.rt v (upd H' b (MD.MixO TabC.w b ys)), fun σ' H' => H' b = some (.frz o (MD.MixO TabC.w b ys)) ∧ De.bk σ' (upd H' b (MD.MixO TabC.w b ys)), fun σ' H' => H' b = some (.frz o (MD.MixO TabC.w b ys)) ∧ De.ct σ' (upd H' b (MD.MixO TabC.w b ys))⟩ where
  nx := fun σ' H' s' n' S' q => ⟨S.atLM hn hb S'.fr, k.nx _ _ _ _ (S.unlockM hn hb S') q⟩
  rt := fun v H' d n' kp st r q => ⟨S.atLM hn hb kp, k.rt _ _ _ _ (S.unkpM hb kp) (st.unlockM (S.atLM hn hb kp)) (Rep.mono (sub_unlockM (S.atLM hn hb kp)) _ _ r) q⟩
  bk := fun σ' H' s' n' S' q => ⟨S.atLM hn hb S'.fr, k.bk _ _ _ _ (S.unlockM hn hb S') q⟩
  ct := fun σ' H' s' n' S' q => ⟨S.atLM hn hb S'.fr, k.ct _ _ _ _ (S.unlockM hn hb S') q⟩
theorem LX.unlockM {K : PySem.W.Frag} {aS b : Addr} {A0 : A0T} {H0 H : Hp} {σ : L2.St} {s : Ev} {n : Nat} {o : Obj} {ys : List MD.EntV} {O : List Nat} {xq : XQ} (uc : UC X E) (hz : ∀ o' u', X.H_0 b ≠ some (.frz o' u')) (S : SR K aS O A0 H0 σ H s n) (hn : ¬ AV aS A0 O σ b) (hb : H b = some (MD.MixO TabC.w b ys)) (L : LX K E aS A0 H0 xq) :
    LX K E aS A0 (bare O σ (upd H b (.frz o (MD.MixO TabC.w b ys)))) xq := fun C fs n' d H' kp st r q => by
  have hl := S.atLM hn hb kp
  refine uc _ _ _ b o _ hl hz (L C fs n' d _ (S.unkpM hb kp) (st.unlockM hl) ?_ q)
  cases d with
  | none => exact r
  | some a =>
    obtain ⟨zs, h1, h2, h3⟩ := r
    have hab : a ≠ b := fun z => by rw [z, hl] at h2; cases h2
    refine ⟨zs, ?_, by rw [upd_ne hab]; exact h2, RepF.mono (sub_unlockM hl) _ _ h3⟩
    cases e : H0 a with
    | none => rfl
    | some u =>
      have hs : a ≠ aS := fun z => by
        obtain ⟨xs, q⟩ := st.lst
        rw [z, q] at h2
        cases h2
      have no : ¬ ∃ i, i ∈ O ∧ σ[i]? = some (some (.ref a)) := fun ⟨i, hi, ei⟩ => by
        obtain ⟨d1, a1, z1, z2, z3, _⟩ := S.ow i hi
        rw [ei] at z2
        cases z2
        rw [e] at z3
        cases z3
      rw [bare_not no, upd_ne hab] at h1
      exact (KpS.gone S.fr h1 e hs).elim
def sForM (p : Ev → Option D) (f : List (D × D) → List D) (g : DG) (mb : SM) : SM := fun xq de s n => ∃ kvs, p s = some (.dmx kvs) ∧ sForL g mb xq de (f kvs) s n
theorem vs_forM {p : Ev → Option D} {f : List (D × D) → List D} {body : List Stmt} (uc : UC X E) (hp : PassesOwn (model X.prog X.w) X.A X.env X.xe) (hc : X.calm = true) (hi : VDM X O tg iter p f) (hg : VG X O vs tg g) (hb : VSs X E O O O body mb)
    (hs : ∀ x, foldedSetIterable iter X.env x = pure x := by intro _; rfl) : VS X E O O OL (.For tg iter body [] pos) (sForM p f g mb) := by
  obtain ⟨pv, J, pi, h2, h3, h4⟩ := hi
  obtain ⟨_, gt, pg, fg⟩ := hg
  obtain ⟨tb, pb, fb⟩ := hb
  have ps := ps_for (pos := pos) hp hc pi pg pb hs
  refine ⟨_, ps_or ps (ps_lockN ps), fun aS A0 H0 σ H s n xq de De S L k h => ?_⟩
  obtain ⟨kvs, e, q⟩ := h
  obtain ⟨v, ev, r⟩ := h2 aS A0 H0 σ H s n _ S e
  rw [Rep] at r
  obtain ⟨b, ys, eb, hn, hr, rk⟩ := r
  subst eb
  rcases hr with hr | ⟨o, hr⟩
  · refine .inr ⟨b, _, hr, trivial, fun hz od => ⟨b, od, ys, ?_, upd_same, ?_⟩⟩
    · exact h3 σ H b od _ _ hr plain_mix ev
    · have Sl := S.lockM (o := od) hn hr
      exact for_fin fg fb Sl (LX.unlockM uc hz S hn hr L) (k.unlockM S hn hr) (h4 aS A0 _ σ _ s n b od ys kvs Sl hn upd_same (RepP.mono (sub_lockM hr) _ _ rk)) q
  · exact .inl ⟨b, o, ys, ev, hr, for_fin fg fb S L k (h4 aS A0 H0 σ H s n b o ys kvs S hn hr rk) q⟩
def eLcM (p : Ev → Option D) (f : List (D × D) → List D) (hs : List Nat) (g : DG) (mt : EM Bool) (me : EM D) : EM D := fun xq s n Q => ∃ kvs, p s = some (.dmx kvs) ∧ (f kvs).length ≤ LIM ∧ sLcL g mt me (fun _ _ => False) (hideL s hs) (f kvs) n [] fun xs n2 => Q (.lst xs) n2
theorem vf_lcM {p : Ev → Option D} {f : List (D × D) → List D} {own : List (Str × Nat)} {ws : List Nat} (hc : X.calm = true) (hN : X.N.Nodup) (hi : VDM X O tg iter p f) (ok : BlkOk X.N X.env.scope scope own) (hown : ∀ j ∈ own.map (·.2), j ∉ O) (hws : ∀ j ∈ ws, j ∈ own.map (·.2))
    (hg : ∀ c : Bk, VG (Cx.bk X scope c) O ws tg g) (ht : ∀ c : Bk, VTs (Cx.bk X scope c) EF O ifs mt) (he : ∀ c : Bk, VE (Cx.bk X scope c) EF O e me) (hs : ∀ x, foldedSetIterable iter X.env x = pure x := by intro _; rfl) :
    VF X E O (.ListComp e [⟨tg, iter, ifs, 0⟩] scope pos) (eLcM p f (own.map (·.2) ++ []) g mt me) := by
  have mnt := (ht bk0).1
  have mne := (he bk0).1
  have mng := (hg bk0).1
  obtain ⟨pv, J, pi, h2, h3, h4⟩ := hi
  obtain ⟨gt, pg, fg⟩ := VG.all hg
  obtain ⟨tt, pt, ft⟩ := VTs.all ht
  obtain ⟨te, pe, fe⟩ := VX.all he
  have pl := pe_lc (pos := pos) hc hN pi ok (fun s H C cl fp => pg (s, H, C, cl, fp)) (fun s H C cl fp => pt (s, H, C, cl, fp)) (fun s H C cl fp => pe (s, H, C, cl, fp)) hs
  refine ⟨fun xq s n Q Q' hq ⟨kvs, e, h1, h⟩ => ⟨kvs, e, h1, mn_lcL mnt mne mng _ _ _ _ _ (fun x n2 => hq _ _) h⟩, _, pe_or pl (pe_lock pl), fun aS A0 H0 σ H s n xq Q S L hm => ?_⟩
  obtain ⟨kvs, e, hl, q⟩ := hm
  obtain ⟨v, ev, r⟩ := h2 aS A0 H0 σ H s n _ S e
  rw [Rep] at r
  obtain ⟨b, ys, eb, hn, hr, rk⟩ := r
  subst eb
  have nb : b ≠ aS := fun z => hn (.inr (.inl z))
  rcases hr with hr | ⟨o, hr⟩
  · refine .inr ⟨b, _, hr, trivial, fun od => ⟨b, od, ys, ?_, upd_same, ?_⟩⟩
    · exact h3 σ H b od _ _ hr plain_mix ev
    · have Sl := S.lockM (o := od) hn hr
      refine lc_fin (Q := fun v H' => H' b = some (.frz od (MD.MixO TabC.w b ys)) ∧ Q v (upd H' b (MD.MixO TabC.w b ys))) (hid := []) (A0 := A0) mnt mne fg ft fe hown hws KpS.refl Sl.st rfl Sl (h4 aS A0 _ σ _ s n b od ys kvs Sl hn upd_same (RepP.mono (sub_lockM hr) _ _ rk)) hl (mn_lcL mnt mne mng _ _ _ _ _ (fun xs n2 q a H' ha kp st ow => ?_) q)
      have hb' : H' b = some (.frz od (MD.MixO TabC.w b ys)) := kp _ _ upd_same nb
      have nab : a ≠ b := fun z => by rw [z, upd_same] at ha; cases ha
      refine ⟨hb', q a _ (by rw [upd_ne nab] at ha; exact ha) (kp_unlockM hr kp) (st.unlockM hb') (ow.mv (sub_unlockM hb') fun u e _ => by rw [upd_ne nab]; exact e)⟩
  · exact .inl ⟨b, o, ys, ev, hr, lc_fin (hid := []) (A0 := A0) mnt mne fg ft fe hown hws KpS.refl S.st rfl S (h4 aS A0 H0 σ H s n b o ys kvs S hn hr rk) hl q⟩
theorem xf_lcM {p : Ev → Option D} {f : List (D × D) → List D} {own : List (Str × Nat)} {ws hs : List Nat} (hh : own.map (·.2) ++ [] = hs) (hc : X.calm = true) (hN : X.N.Nodup) (hi : VDM X O tg iter p f) (ok : BlkOk X.N X.env.scope scope own) (hown : ∀ j ∈ own.map (·.2), j ∉ O) (hws : ∀ j ∈ ws, j ∈ own.map (·.2))
    (hg : ∀ c : Bk, VG (Cx.bk X scope c) O ws tg g) (ht : ∀ c : Bk, VTs (Cx.bk X scope c) EF O ifs mt) (he : ∀ c : Bk, VE (Cx.bk X scope c) EF O e me) (hs' : ∀ x, foldedSetIterable iter X.env x = pure x := by intro _; rfl) :
    VF X E O (.ListComp e [⟨tg, iter, ifs, 0⟩] scope pos) (eLcM p f hs g mt me) := hh ▸ vf_lcM hc hN hi ok hown hws hg ht he hs'
end
/-! read as plain functions -/
def asDmx : Option D → Res (List (D × D))
  | some (.dmx kvs) => .ok kvs
  | _ => .bad
theorem wp_asDmx {o : Option D} {xq : XQ} {n : Nat} {Q : List (D × D) → Nat → Prop} (h : (asDmx o).wp xq n Q) : ∃ kvs, o = some (.dmx kvs) ∧ Q kvs n := by
  unfold asDmx at h
  split at h
  · exact ⟨_, rfl, h⟩
  · exact h.elim
def fLcM (p : Ev → Option D) (f : List (D × D) → List D) (hs : List Nat) (g : FG) (t : FM Bool) (e : FM D) : FM D := fun s => (asDmx (p s)).bind fun kvs => if (f kvs).length ≤ LIM then (fLcL g t e (hideL s hs) (f kvs)).calm.bind fun xs => .ok (.lst xs) else .bad
theorem le_lcM {p : Ev → Option D} {f : List (D × D) → List D} {hs : List Nat} {g : FG} {t : FM Bool} {e : FM D} : ∀ xq s n Q, up (fLcM p f hs g t e) xq s n Q → eLcM p f hs (upG g) (up t) (up e) xq s n Q := fun xq s n Q h => by
  obtain ⟨kvs, e1, h⟩ := wp_asDmx (wp_bind h)
  obtain ⟨e2, h⟩ := wp_dec h
  exact ⟨kvs, e1, e2, lc_le (xq := xq) _ [] _ (wp_calm (wp_bind h))⟩
def fForM (p : Ev → Option D) (k : List (D × D) → List D) (g : FG) (b : FS) : FS := fun s => (asDmx (p s)).so fun kvs => fForL g b (k kvs) s
theorem ls_forM {p : Ev → Option D} {k : List (D × D) → List D} {g : FG} {b : FS} : ∀ xq de s n, upS (fForM p k g b) xq de s n → sForM p k (upG g) (upS b) xq de s n := fun xq de s n h => by
  obtain ⟨kvs, e, h⟩ := wp_asDmx (wp_so h)
  exact ⟨kvs, e, for_le _ s h⟩
/-! list(d), dict(pairs) -/
def dListM : List D → Option D
  | [.dmx kvs] => some (.lst (keysM kvs))
  | ds => dList ds
theorem RepP.keyL {K : PySem.W.Frag} {aS : Addr} {H : Hp} {A : AS} : ∀ {ds : List (D × D)} {ys : List MD.EntV}, RepP K aS H A ds ys → RepL K aS H A (keysM ds) (ys.map (·.2.1))
  | [], ys, r => by rw [RepP] at r; subst r; exact RepL.nil
  | (k, d) :: ds, ys, r => by
    rw [RepP] at r
    obtain ⟨nk, kv, v, vr, rfl, _, rk, rd, q⟩ := r
    exact RepL.cons rk (RepP.keyL q)
theorem cf_listM {X : Cx} (hw : X.w = TabC.w) (hc : X.calm = true) : CallF X (.type "list") dListM := by
  obtain ⟨r0, h0, k0⟩ := cf_list (X := X) hc
  refine ⟨_, CallR.or (MD.call_listM (X := X) hc) h0, fun aS H A n ds d vs Q c rl e w => ?_⟩
  unfold dListM at e
  split at e
  · cases e
    obtain ⟨v, e1, r⟩ := rl_one rl
    obtain ⟨p, ys, e2, _, h1, q⟩ := repB_dmx r
    subst e1 e2
    exact .inl ⟨p, ys, rfl, by rw [hw]; exact h1, fun l hl => w _ _ hl (KpS.upd hl) (c.st.upd hl) (own_new hl q.keyL)⟩
  · exact .inr (k0 aS H A n _ d vs Q c rl e w)
def pairM : D → Option (D × D)
  | .tup [k, v] => (mkey k).map fun _ => (k, v)
  | _ => none
def pairsM : List D → Option (List (D × D))
  | [] => some []
  | d :: ds => (pairM d).bind fun p => (pairsM ds).map fun r => p :: r
def putK (acc : List (D × D)) (p : D × D) : List (D × D) := putM acc ((nkey p.1).getD .none) p.1 p.2
def mergeM (acc kvs : List (D × D)) : List (D × D) := kvs.foldl putK acc
def dDictM : List D → Option D
  | [.lst ds] => (pairsM ds).map fun kvs => .dmx (mergeM [] kvs)
  | _ => none
theorem pairsM_rep {K : PySem.W.Frag} {aS : Addr} {H : Hp} {A : AS} : ∀ {ds : List D} {vs : List V} {kvs : List (D × D)}, pairsM ds = some kvs → RepL K aS H A ds vs → ∃ (ps : List Addr) (ys : List MD.EntV), vs = ps.map V.ref ∧ Paired (fun p (y : MD.EntV) => SqT K H p [y.2.1, y.2.2]) ps ys ∧ RepP K aS H A kvs ys
  | [], vs, kvs, e, h => by
    rw [RepL] at h
    cases e
    exact ⟨[], [], h, .nil, RepP.nil⟩
  | d :: ds, vs, kvs, e, h => by
    rw [RepL] at h
    obtain ⟨v, vr, rfl, r, q⟩ := h
    unfold pairsM at e
    obtain ⟨p, hp, e⟩ := Option.bind_eq_some_iff.mp e
    obtain ⟨rr, hr, rfl⟩ := Option.map_eq_some_iff.mp e
    obtain ⟨ps, ys, rfl, e2, e3⟩ := pairsM_rep hr q
    unfold pairM at hp
    split at hp
    · rename_i k v'
      obtain ⟨nk, hk, rfl⟩ := Option.map_eq_some_iff.mp hp
      rw [Rep] at r
      obtain ⟨a, xs, rfl, ht, rl⟩ := r
      rw [RepL] at rl
      obtain ⟨v1, vr1, rfl, r1, rl⟩ := rl
      rw [RepL] at rl
      obtain ⟨v2, vr2, rfl, r2, rl⟩ := rl
      rw [RepL] at rl
      subst rl
      exact ⟨a :: ps, (nk, v1, v2) :: ys, rfl, .cons ht.sq e2, RepP.cons (mkey_of hk) r1 r2 e3⟩
    · cases hp
theorem RepP.merge {K : PySem.W.Frag} {aS : Addr} {H : Hp} {A : AS} : ∀ {kvs acc : List (D × D)} {ys ac : List MD.EntV}, RepP K aS H A kvs ys → RepP K aS H A acc ac → RepP K aS H A (mergeM acc kvs) (MD.mergeV ac ys)
  | [], acc, ys, ac, r, q => by rw [RepP] at r; subst r; exact q
  | (k, d) :: kvs, acc, ys, ac, r, q => by
    rw [RepP] at r
    obtain ⟨nk, kv, v, vr, rfl, hk, rk, rd, r'⟩ := r
    refine RepP.merge (kvs := kvs) (ys := vr) r' ?_
    show RepP K aS H A (putK acc (k, d)) (MD.putV ac nk kv v)
    unfold putK
    dsimp only
    rw [hk.1]
    exact RepP.put hk rk rd q
theorem cf_dictM {X : Cx} (hu : X.A.units + 64 < cLine) (hw : X.w = TabC.w) (hc : X.calm = true) : CallF X (.type "dict") dDictM := by
  refine ⟨_, MD.call_dictMP (X := X) (by omega) hc, fun aS H A n ds d vs Q c rl e w => ?_⟩
  unfold dDictM at e
  split at e
  · rename_i ds'
    obtain ⟨kvs, hp, rfl⟩ := Option.map_eq_some_iff.mp e
    obtain ⟨v, e1, r⟩ := rl_one rl
    obtain ⟨p, xs, e2, _, h1, q⟩ := repB_lst r
    subst e1 e2
    obtain ⟨ps, ys, rfl, z2, z3⟩ := pairsM_rep hp q
    refine ⟨p, ps, ys, rfl, SqL.of h1, z2, z3.keys, fun l hl => ?_⟩
    rw [hw]
    exact w _ _ hl (KpS.upd hl) (c.st.upd hl) (own_newM hl (z3.merge RepP.nil))
  · cases e
end DL
namespace DL
open PySem PySem.Spec PyProof.Rows L2
variable [TabC]
/-! {k: v for .. in a mixed dict} with texts as keys -/
section
variable {X : Cx} {E : XK} {O OB OL vs hid hs : List Nat} {tg e iter kx : Expr} {ifs : List Expr} {m me mk : EM D} {mt : EM Bool} {g : DG} {scope : Scope} {pos : Pos}
def eDcM (p : Ev → Option D) (f : List (D × D) → List D) (hs : List Nat) (g : DG) (mt : EM Bool) (mk me : EM D) : EM D := fun xq s n Q => ∃ kvs, p s = some (.dmx kvs) ∧ (f kvs).length ≤ LIM ∧ sDcL g mt mk me (fun _ _ => False) (hideL s hs) (f kvs) n [] fun xs n2 => Q (.dic xs) n2
theorem vf_dcM {p : Ev → Option D} {f : List (D × D) → List D} {own : List (Str × Nat)} {ws : List Nat} (hc : X.calm = true) (hN : X.N.Nodup) (hi : VDM X O tg iter p f) (ok : BlkOk X.N X.env.scope scope own) (hown : ∀ j ∈ own.map (·.2), j ∉ O) (hws : ∀ j ∈ ws, j ∈ own.map (·.2))
    (hg : ∀ c : Bk, VG (Cx.bk X scope c) O ws tg g) (ht : ∀ c : Bk, VTs (Cx.bk X scope c) EF O ifs mt) (hk : ∀ c : Bk, VE (Cx.bk X scope c) EF O kx mk) (he : ∀ c : Bk, VE (Cx.bk X scope c) EF O e me) (hs : ∀ x, foldedSetIterable iter X.env x = pure x := by intro _; rfl) :
    VF X E O (.DictComp kx e [⟨tg, iter, ifs, 0⟩] scope pos) (eDcM p f (own.map (·.2) ++ []) g mt mk me) := by
  have mnt := (ht bk0).1
  have mnk := (hk bk0).1
  have mne := (he bk0).1
  have mng := (hg bk0).1
  obtain ⟨pv, J, pi, h2, h3, h4⟩ := hi
  obtain ⟨gt, pg, fg⟩ := VG.all hg
  obtain ⟨tt, pt, ft⟩ := VTs.all ht
  obtain ⟨tk, pk, fk⟩ := VX.all hk
  obtain ⟨te, pe, fe⟩ := VX.all he
  have pl := pe_dc (pos := pos) hc hN pi ok (fun s H C cl fp => pg (s, H, C, cl, fp)) (fun s H C cl fp => pt (s, H, C, cl, fp)) (fun s H C cl fp => pk (s, H, C, cl, fp)) (fun s H C cl fp => pe (s, H, C, cl, fp)) hs
  refine ⟨fun xq s n Q Q' hq ⟨kvs, e, h1, h⟩ => ⟨kvs, e, h1, mn_dcL mnt mnk mne mng _ _ _ _ _ (fun x n2 => hq _ _) h⟩, _, pe_or pl (pe_lock pl), fun aS A0 H0 σ H s n xq Q S L hm => ?_⟩
  obtain ⟨kvs, e, hl, q⟩ := hm
  obtain ⟨v, ev, r⟩ := h2 aS A0 H0 σ H s n _ S e
  rw [Rep] at r
  obtain ⟨b, ys, eb, hn, hr, rk⟩ := r
  subst eb
  have nb : b ≠ aS := fun z => hn (.inr (.inl z))
  rcases hr with hr | ⟨o, hr⟩
  · refine .inr ⟨b, _, hr, trivial, fun od => ⟨b, od, ys, ?_, upd_same, ?_⟩⟩
    · exact h3 σ H b od _ _ hr plain_mix ev
    · have Sl := S.lockM (o := od) hn hr
      refine dc_fin (Q := fun v H' => H' b = some (.frz od (MD.MixO TabC.w b ys)) ∧ Q v (upd H' b (MD.MixO TabC.w b ys))) (hid := []) (A0 := A0) mnt mnk mne fg ft fk fe hown hws KpS.refl Sl.st rfl Sl (h4 aS A0 _ σ _ s n b od ys kvs Sl hn upd_same (RepP.mono (sub_lockM hr) _ _ rk)) hl (mn_dcL mnt mnk mne mng _ _ _ _ _ (fun xs n2 q a H' ha kp st ow => ?_) q)
      have hb' : H' b = some (.frz od (MD.MixO TabC.w b ys)) := kp _ _ upd_same nb
      have nab : a ≠ b := fun z => by rw [z, upd_same] at ha; cases ha
      refine ⟨hb', q a _ (by rw [upd_ne nab] at ha; exact ha) (kp_unlockM hr kp) (st.unlockM hb') (ow.mv (sub_unlockM hb') fun u e _ => by rw [upd_ne nab]; exact e)⟩
  · exact .inl ⟨b, o, ys, ev, hr, dc_fin (hid := []) (A0 := A0) mnt mnk mne fg ft fk fe hown hws KpS.refl S.st rfl S (h4 aS A0 H0 σ H s n b o ys kvs S hn hr rk) hl q⟩
theorem xf_dcM {p : Ev → Option D} {f : List (D × D) → List D} {own : List (Str × Nat)} {ws : List Nat} (hh : own.map (·.2) ++ [] = hs) (hc : X.calm = true) (hN : X.N.Nodup) (hi : VDM X O tg iter p f) (ok : BlkOk X.N X.env.scope scope own) (hown : ∀ j ∈ own.map (·.2), j ∉ O) (hws : ∀ j ∈ ws, j ∈ own.map (·.2))
    (hg : ∀ c : Bk, VG (Cx.bk X scope c) O ws tg g) (ht : ∀ c : Bk, VTs (Cx.bk X scope c) EF O ifs mt) (hk : ∀ c : Bk, VE (Cx.bk X scope c) EF O kx mk) (he : ∀ c : Bk, VE (Cx.bk X scope c) EF O e me) (hs' : ∀ x, foldedSetIterable iter X.env x = pure x := by intro _; rfl) :
    VF X E O (.DictComp kx e [⟨tg, iter, ifs, 0⟩] scope pos) (eDcM p f hs g mt mk me) := hh ▸ vf_dcM hc hN hi ok hown hws hg ht hk he hs'
end
def fDcM (p : Ev → Option D) (f : List (D × D) → List D) (hs : List Nat) (g : FG) (t : FM Bool) (k e : FM D) : FM D := fun s => (asDmx (p s)).bind fun kvs => if (f kvs).length ≤ LIM then (fDcL g t k e (hideL s hs) (f kvs) []).calm.bind fun xs => .ok (.dic xs) else .bad
theorem le_dcM {p : Ev → Option D} {f : List (D × D) → List D} {hs : List Nat} {g : FG} {t : FM Bool} {k e : FM D} : ∀ xq s n Q, up (fDcM p f hs g t k e) xq s n Q → eDcM p f hs (upG g) (up t) (up k) (up e) xq s n Q := fun xq s n Q h => by
  obtain ⟨kvs, e1, h⟩ := wp_asDmx (wp_bind h)
  obtain ⟨e2, h⟩ := wp_dec h
  exact ⟨kvs, e1, e2, dc_le (xq := xq) _ [] _ (wp_calm (wp_bind h))⟩
theorem dcME {p : Ev → Option D} {f : List (D × D) → List D} {hs : List Nat} {g : FG} {t : FM Bool} {k e : FM D} {s : Ev} {kvs : List (D × D)} {xs : List (Key × D)} (h : p s = some (.dmx kvs)) (hl : (f kvs).length ≤ LIM) (h2 : fDcL g t k e (hideL s hs) (f kvs) [] = .ok xs) : fDcM p f hs g t k e s = .ok (.dic xs) := by
  unfold fDcM
  rw [h]
  show (if (f kvs).length ≤ LIM then _ else _) = _
  rw [if_pos hl, h2]
  rfl
end DL
namespace MD
open L2 PySem PySem.Spec PyProof.Rows SeqAt
/-! d.get(k, x) of a mixed dict -/
theorem meets_get2 {prog : Program} {w : World} (d : Addr) (key dflt : Value) (hd : (d == sysModules) = false) :
    MeetsIn prog w (Builtin.«dict.get» ⟨[.ref d, key, dflt], []⟩) (fun A R s => A.in1.units + 8 < cLine ∧ ∃ (xs : List Ent) (k : NK), NestedIs s.heap k key ∧ k.depth ≤ 8 ∧ Dic w s.heap d xs ∧ Kok s.heap xs ∧ R (.ok (.ret ((lookX xs k).getD dflt))) (more s k)) :=
  .of_wp fun A R s ⟨hu, xs, k, hk, dk, hm, hx, h⟩ => by
    show wpAny _ _ (dictGet d key >>= _) _ _ s
    refine wpAny_bind (get hu hm hx hk dk ?_)
    cases hf : lookX xs k with
    | some v =>
      rw [hf] at h
      exact wpAny_pure ⟨v, rfl, h⟩
    | none =>
      rw [hf] at h
      show wpAny _ _ (Builtin.Dict.missed d key >>= _) _ _ _
      exact wpAny_bind (wpAny_missed_other hd (wpAny_pure ⟨dflt, rfl, h⟩))
section
variable {X : Cx} {pins : List (Addr × Obj)} {σ : L2.St} {H : Hp} {s : Shared} {a : Addr}
theorem m_get2 {y d : V} {u r : Value} {o : Option V} {E : Value → Shared → Prop} {Q : Value → Shared → Prop} (hu : X.A.units + 9 < cLine) (I : Inv X pins σ H s) (g : MGet X H a y o) (ry : RelV y u) (rd : RelV d r) (h : ∀ w' s', Inv X pins σ H s' → RelV (o.getD d) w' → Q w' s') :
    wpAny (model X.prog X.w) X.A (call (.builtin "dict.get") [.ref a, u, r]) Q E s := by
  obtain ⟨ys, k, e, hk, kk, dk, rfl⟩ := g
  obtain ⟨z, hs, xs, dd, p⟩ := mix_rd I e
  refine call_meetsIn PySem.F.slot_dict_get (typ dd) PySem.F.entry_dict_get (PySem.F.args_dict_get_3 _ _ _) (meets_get2 a u r hs) ⟨by rw [Around.in1_units]; omega, xs, k, KeyV.nested I _ _ _ kk ry, dk, dd, kok_of I hk p, h _ _ (I.tok _) ?_⟩
  exact (rel_look p).getD rd
end
section
variable {X : Cx} {o e f : Expr} {apos cpos : Pos} {td ty tx : TE}
def tMGet2 (X : Cx) (td ty tx : TE) : TE := fun σ H Q => td σ H fun x H1 => ∃ a, x = .ref a ∧ (∃ ys, Rd H1 a (MixO X.w a ys)) ∧ ty σ H1 fun y H2 => tx σ H2 fun z H3 => ∃ ov, MGet X H3 a y ov ∧ Q (ov.getD z) H3
theorem pe_mget2 (hu : X.A.units + 9 < cLine) (ho : PE X o td) (he : PE X e ty) (hf : PE X f tx) (m : M2 X o "get" apos e f cpos) : PE X (.Call (.Attribute o "get" apos) [e, f] [] cpos) (tMGet2 X td ty tx) := by
  refine ⟨fun pins s σ H Q I h => ?_⟩
  refine wpAny_Call_method m.base m.few m.line PySem.F.plainAttrs_dict PySem.F.slot_dict_get PySem.F.type_dict_get (thn (ho.run pins s σ H _ I h) fun u s1 ⟨x, H1, I1, rx, a, ex, ⟨ys, rd⟩, q1⟩ => ?_)
  subst ex
  obtain rfl : u = Value.ref a := rx
  obtain ⟨z, hs, xs, dd, p⟩ := mix_rd I1 rd
  obtain ⟨ob, es, ep, hob, hcl, hdat, _⟩ := id dd
  refine ⟨typ dd, fun b q => by cases q; exact ⟨ob, hob, hcl.2.1⟩, ?_⟩
  rw [m.trees]
  refine Calls.callWith_builtin rfl (Calls.evalArgs_plain (Calls.spliced_cons (thn (he.run pins s1 σ H1 _ I1 q1) fun iv s2 ⟨y, H2, I2, ry, q2⟩ =>
    Calls.spliced_cons (thn (hf.run pins s2 σ H2 _ I2 q2) fun fv s3 ⟨z, H3, I3, rz, ov, g, q3⟩ => Calls.spliced_nil ?_))))
  exact m_get2 hu I3 g ry rz fun w' s4 I4 rw' => ⟨_, H3, I4, rw', q3⟩
end
end MD
namespace DL
open PySem PySem.Spec PyProof.Rows L2
variable [TabC]
def eMget2 (mo mk mx : EM D) : EM D := fun xq s n Q => mo xq s n fun d n1 => ∃ kvs, d = .dmx kvs ∧ mk xq s n1 fun k n2 => mx xq s n2 fun x n3 => ∃ kk, mkey k = some kk ∧ Q ((lookM kvs kk).getD x) n3
section
variable {X : Cx} {E : XK} {O : List Nat} {o : Expr} {mo mk mx : EM D} {pos : Pos}
theorem ve_mget2 {ek ex : Expr} {ap : Pos} (hu : X.A.units + 9 < cLine) (hw : X.w = TabC.w) (ho : VB X E O o mo) (hk : VE X E O ek mk) (hx : VE X E O ex mx) (hM : M2 X o "get" ap ek ex pos := by exact ⟨rfl, rfl, rfl, rfl⟩) : VE X E O (.Call (.Attribute o "get" ap) [ek, ex] [] pos) (eMget2 mo mk mx) := by
  obtain ⟨mno, to, po, fo⟩ := ho
  obtain ⟨mnk, tk, pk, fk⟩ := hk
  obtain ⟨mnx, tx, px, fx⟩ := hx
  refine ⟨fun xq s n Q Q' hq w => mno _ _ _ _ _ (fun d n1 ⟨kvs, e, w⟩ => ⟨kvs, e, mnk _ _ _ _ _ (fun k n2 w => mnx _ _ _ _ _ (fun x n3 ⟨kk, e, w⟩ => ⟨kk, e, hq _ _ w⟩) w) w⟩) w, _, MD.pe_mget2 hu po pk px hM, fun aS A0 H0 σ H s n xq Q S L hm => ?_⟩
  refine fo aS A0 H0 σ H s n xq _ S L (mno _ _ _ _ _ (fun d n1 q v H1 k1 st1 r1 => ?_) hm)
  obtain ⟨kvs, ed, q⟩ := q
  subst ed
  obtain ⟨a, ys, ev, na, hr, rk⟩ := repB_dmx r1
  refine ⟨a, ev, ⟨ys, by rw [hw]; exact hr⟩, fk aS A0 H0 σ H1 s n1 xq _ (S.step k1 st1) L (mnk _ _ _ _ _ (fun d2 n2 q2 v2 H2 k2 st2 r2 => ?_) q)⟩
  refine fx aS A0 H0 σ H2 s n2 xq _ (S.step (k1.trans k2) st2) L (mnx _ _ _ _ _ (fun d3 n3 q3 v3 H3 k3 st3 r3 => ?_) q2)
  obtain ⟨kk, z1, q3⟩ := q3
  have k23 := k2.trans k3
  obtain ⟨a', ys', ev', na', hr', rk'⟩ := repB_dmx (r1.kp k23 st1 AV.st)
  rw [ev] at ev'
  cases ev'
  have r2' := (r2.kp k3 st2 AV.st)
  rcases rk'.look kk with ⟨z1', z2⟩ | ⟨d', v', z1', z2, z3⟩
  · refine ⟨none, ?_, q3 _ H3 (k1.trans k23) st3 ?_⟩
    · have g := mget_of hw z1 (r2'.b AV.st) hr' rk'
      rw [z2] at g
      exact g
    · rw [z1']; exact r3
  · refine ⟨some v', ?_, q3 _ H3 (k1.trans k23) st3 ?_⟩
    · have g := mget_of hw z1 (r2'.b AV.st) hr' rk'
      rw [z2] at g
      exact g
    · rw [z1']; exact z3
end
def fMget2 (o k x : FM D) : FM D := fun s => (o s).bind fun d => match d with
  | .dmx kvs => (k s).bind fun kd => (x s).bind fun xd => match mkey kd with
    | some kk => .ok ((lookM kvs kk).getD xd)
    | none => .bad
  | _ => .bad
theorem le_mget2 {o k x : FM D} : ∀ xq s n Q, up (fMget2 o k x) xq s n Q → eMget2 (up o) (up k) (up x) xq s n Q := fun xq s n Q h => by
  unfold eMget2 up
  refine wp_mono (fun d h => ?_) (wp_bind h)
  cases d with
  | dmx kvs =>
    refine ⟨kvs, rfl, wp_mono (fun kd h => wp_mono (fun xd h => ?_) (wp_bind h)) (wp_bind h)⟩
    split at h
    · exact ⟨_, by assumption, h⟩
    · exact h.elim
  | _ => exact h.elim
theorem mget2E {o k x : FM D} {s : Ev} {kvs : List (D × D)} {kd xd : D} {kk : MD.NK} (h1 : o s = .ok (.dmx kvs)) (h2 : k s = .ok kd) (h3 : x s = .ok xd) (hk : mkey kd = some kk) : fMget2 o k x s = .ok ((lookM kvs kk).getD xd) := by
  unfold fMget2
  rw [h1]
  show (k s).bind _ = _
  rw [h2]
  show (x s).bind _ = _
  rw [h3]
  show (match mkey kd with | some kk => _ | none => _) = _
  rw [hk]
end DL
namespace DL
open PySem PySem.Spec PyProof.Rows L2
variable [TabC]
/-! behind a statement a plain dict of a slot is seen as a mixed one -/
theorem SR.toM {O : List Nat} {i : Nat} {K : PySem.W.Frag} {aS a : Addr} {H H0 : Hp} {A0 : A0T} {σ : L2.St} {s : Ev} {n : Nat} {ds : List (Key × D)} {xs : List (Key × V)} (S : SR K aS O A0 H0 σ H s n) (hi : i ∈ O) (e : σ[i]? = some (some (.ref a))) (ho : H a = some (.dK xs)) (r : RepK K aS H (AV aS A0 O σ) ds xs) :
    SR K aS O A0 H0 σ (upd H a (MD.MixO TabC.w a (xs.map MD.entK))) (s.set i (some (.dmx (mixD ds)))) n := by
  refine S.mut hi e ho (fun _ z => nomatch z) (fun _ _ z => nomatch z) ⟨_, upd_same, ?_⟩
  have hA : AV aS A0 O σ a := .inr (.inr ⟨i, hi, e⟩)
  have ne : ∀ b, ¬ AV aS A0 O σ b → b ≠ a := fun b h z => h (z ▸ hA)
  have up : ∀ b u, H b = some u → b ≠ a → upd H a (MD.MixO TabC.w a (xs.map MD.entK)) b = some u := fun b u q z => by rw [upd_ne z]; exact q
  refine RepP.mono ⟨fun b xs h q => ⟨h, up _ _ q (ne b h)⟩, fun b xs q => q.elim (fun q => .inl (up _ _ q fun z => ?_)) .inr, fun b ys h q => ⟨h, ?_⟩, fun b ys h q => ⟨h, ?_⟩, fun b C dx ys h q => ⟨h, up _ _ q (ne b h)⟩, fun b u _ h q => ⟨h, up _ _ q (ne b h)⟩⟩ _ _ r.mix
  · have q : H b = _ := q
    rw [z, ho] at q
    cases q
  all_goals
    rcases q with q | ⟨z, q⟩
    · exact .inl (up _ _ q (ne b h))
    · exact .inr ⟨z, up _ _ q (ne b h)⟩
/-- the heap, or a plain dict in it seen as a mixed one -/
def Seen (w : World) (H H' : Hp) : Prop := H' = H ∨ ∃ a kvs, H a = some (.dK kvs) ∧ H' = upd H a (MD.MixO w a (kvs.map MD.entK))
def tSeen (w : World) (t : TS) : TS := fun D σ H => t { D with nx := fun σ' H' => ∃ H2, Seen w H' H2 ∧ D.nx σ' H2 } σ H
theorem ps_seen {X : Cx} {st : Stmt} {t : TS} (h : PS X st t) : PS X st (tSeen X.w t) := ⟨fun pins s σ H D I q => thn (h.run pins s σ H _ I q) fun f s' z => by
  cases f with
  | next =>
    obtain ⟨σ', H', I', H2, z1, z2⟩ := z
    rcases z1 with rfl | ⟨a, kvs, e, rfl⟩
    · exact ⟨σ', _, I', z2⟩
    · exact ⟨σ', _, MD.mix_of I' e, z2⟩
  | brk => exact z
  | cont => exact z
  | ret u => exact z⟩
def toMde (i : Nat) (de : DE) : DE := { de with nx := fun s' n' => (∃ kvs, s'[i]? = some (some (.dic kvs)) ∧ de.nx (s'.set i (some (.dmx (mixD kvs)))) n') ∨ (∃ kvs, s'[i]? = some (some (.dmx kvs)) ∧ de.nx s' n') }
def sToM (i : Nat) (m : SM) : SM := fun xq de s n => m xq (toMde i de) s n
theorem vs_toM {X : Cx} {E : XK} {O O' OL : List Nat} {st : Stmt} {m : SM} {i : Nat} (hw : X.w = TabC.w) (hi : i ∈ O') (h : VS X E O O' OL st m) : VS X E O O' OL st (sToM i m) := by
  obtain ⟨t, p, f⟩ := h
  refine ⟨_, ps_seen p, fun aS A0 H0 σ H s n xq de De S L k hm => f aS A0 H0 σ H s n xq (toMde i de) _ S L ⟨fun σ' H' s' n' S' z => ?_, k.rt, k.bk, k.ct⟩ hm⟩
  rcases z with ⟨kvs, e, z⟩ | ⟨kvs, e, z⟩
  · obtain ⟨a, ys, e1, e2, e3, e4⟩ := own_dic S' hi e
    refine ⟨_, .inr ⟨a, ys, e3, rfl⟩, ?_⟩
    rw [hw]
    exact k.nx _ _ _ _ (S'.toM hi e1 e3 e4) z
  · exact ⟨_, .inl rfl, k.nx _ _ _ _ S' z⟩
end DL
namespace DL
open PySem PySem.Spec PyProof.Rows L2
variable [TabC]
/-! list(range(n)) -/
section
variable {X : Cx} {E : XK} {O OL : List Nat} {a : Expr} {m : EM D} {pos : Pos}
end
end DL
namespace DL
open PySem PySem.Spec PyProof.Rows L2
variable [TabC]
/-! ### a comprehension with two fors; the inner one over a list, a tuple or a text -/
section
variable {X : Cx} {E : XK} {O OB hid : List Nat} {tg e iter tg1 iter1 : Expr} {ifs ifs1 : List Expr} {m me m1 : EM D} {mi : EM (List D)} {mt mt1 : EM Bool} {g g1 : DG} {scope : Scope} {pos : Pos}
end
section
variable {X : Cx} {E : XK} {O OB hid hs : List Nat} {tg e iter tg1 iter1 : Expr} {ifs ifs1 : List Expr} {me m1 : EM D} {mi : EM (List D)} {mt mt1 : EM Bool} {g g1 : DG} {scope : Scope} {pos : Pos}
end
end DL
namespace DL
open PySem PySem.Spec PyProof.Rows L2
variable [TabC]
end DL
namespace DL
open PySem PySem.Spec PyProof.Rows L2
variable [TabC]
theorem seqFM {m r : SM} {xq : XQ} {de : DE} {s : Ev} {n : Nat} (h : m xq { nx := fun s' n' => r xq de s' n', rt := fun _ _ => False } s n) : sSeqF m r xq de s n := h
/-! ### hangings, waits -/
end DL
namespace TR
open PySem PySem.Spec PyProof.Rows L2
variable {X : Cx}
theorem tried_givesD {K : PySem.W.Frag} (hK : X.K = K) {Ng : List Str} {x a fd q : Str} {sg : Scope} {g : Addr} {cdg : Value} {l : List HE} {h₀ : ExceptHandler} {hds : List ExceptHandler} {j0 : Nat} {p1 p2 p3 q1 q2 q3 q4 q5 q6 : Pos}
    (nd : Ng.Nodup) (h1 : Ng[1]? = some fd) (hlf : sg.names.lookup fd = some .local) (hlen : 2 ≤ Ng.length) (hl : ∀ e ∈ l, heOk Ng.length 1 e)
    (hh : ∀ s H, MixOk (ZX X Ng x sg g cdg s H) (h₀ :: hds) (l.map (hdOf X.K 1))) (hd : (fd == ("__debug__" : Str)) = false := by decide) (hcd : (fd == ("__classdict__" : Str)) = false := by decide)
    (hsw1 : ∀ s H, swapsWith (.Constant .none j0 q2) (some (.Name fd q1)) q3.line (ZX X Ng x sg g cdg s H).env = pure false := by intros; rfl)
    (hsw2 : ∀ s H, swapsWith (.Call (.Name a p1) [] [] p2) none p3.line (ZX X Ng x sg g cdg s H).env = pure false := by intros; rfl) 
    (hsw3 : ∀ w s H, swapsWith (.Tuple [.Constant (.str w) 0 q1, .Call (.Name a p1) [] [] p2] 0 q1) (some (.Name fd q1)) p3.line (ZX X Ng x sg g cdg s H).env = pure false := by intros; rfl) :
    LamX.GivesTo X Ng x sg g cdg [.Assign [.Name fd q1] (.Constant .none j0 q2) q3, .Try [.Expr (.Call (.Name a p1) [] [] p2) p3] (h₀ :: hds) [] [] q4, .Return (some (.Name fd q5)) q6] a q (TTried K Ng .drop l) := by
  subst hK
  exact tried_gives (ok := .drop) (q7 := q6) (k1 := 0) (k2 := 0) (p4 := q1) (p5 := q1) (p6 := q1) nd h1 hlf hlen hl hd hcd hsw1 hsw2 hsw3 hh
end TR
namespace DL
open PySem PySem.Spec PyProof.Rows L2
variable [TabC]
/-! ### what a slot owns is lent to a def that tells nothing that could be it -/
section
variable {K : PySem.W.Frag} {aS : Addr} {H : Hp} {A A' : AS} {mx : Bool}
end
section
variable {X : Cx} {E : XK} {O : List Nat} {e : Expr} {es : List Expr} {m : EM D} {ml : EM (List D)} {pos : Pos}
end
/-! flat forms -/
end DL
namespace DL
open PySem PySem.Spec PyProof.Rows L2
variable [TabC]
/-! three targets, the last one takes a new thing -/
section
variable {X : Cx} {E : XK} {O OL : List Nat} {a b c : Expr} {ma mb mc : EM D} {pos : Pos} {i j l : Nat} {x y z : Str}
end
end DL
namespace DL
open PySem PySem.Spec PyProof.Rows L2
variable [TabC]
/-! two targets: the first one new, or one of them read by a block; l.index(x) -/
section
variable {X : Cx} {E : XK} {O OL : List Nat} {a b c e o : Expr} {ma mb mc m mo mx : EM D} {pos : Pos} {i j : Nat} {x y : Str}
/-! l.index(x) -/
end
/-! name = [.. for .. in a dict] -/
section
variable {X : Cx} {E : XK} {O OL hs ws : List Nat} {e tg iter : Expr} {ifs : List Expr} {me : EM D} {mt : EM Bool} {g : DG} {scope : Scope} {pos : Pos} {own : List (Str × Nat)} {i : Nat} {y : Str}
end
/-! a truth by cases -/
section
variable {X : Cx} {E : XK} {O : List Nat} {a b c : Expr} {mc ma mb : EM Bool} {pos : Pos}
end
section
variable {a b : FM D}
end
end DL
namespace DL
open PySem PySem.Spec PyProof.Rows L2
variable [TabC]
/-! three targets, the first one takes a new thing, the last one too or not -/
abbrev LFq : XQ := fun _ _ => False
def sPar3H (i j l : Nat) (ma mb mc : EM D) : SM := fun xq de s n => i < s.length ∧ l < s.length ∧ sPar3 i j l ma mb mc LFq de s n
section
variable {X : Cx} {E : XK} {O OL : List Nat} {a b c : Expr} {ma mb mc : EM D} {pos : Pos} {i j l : Nat} {x y z : Str}
theorem vs_par3Hc {px py pz pt : Pos} {kt : Nat} {k2 pt2} (hi : i ∉ O) (hj : j ∉ O) (hl : l ∉ O) (hi0 : i ≠ 0) (hl0 : l ≠ 0) (hc : X.calm = true) (hN : X.N.Nodup) (hNi : X.N[i]? = some x) (hNj : X.N[j]? = some y) (hNl : X.N[l]? = some z) (hij : i ≠ j) (hil : i ≠ l) (hjl : j ≠ l) (hx : Loc X.env.scope x) (hy : Loc X.env.scope y) (hz : Loc X.env.scope z)
    (ha : VF X E O a ma) (hb : VE X E O b mb) (hcc : VF X E O c mc) (hs : swapsWithSole [.Tuple [.Name x px, .Name y py, .Name z pz] kt pt] (.Tuple [a, b, c] k2 pt2) pos.line X.env = pure false := by rfl) (hw : swappedStores [.Tuple [.Name x px, .Name y py, .Name z pz] kt pt] (.Tuple [a, b, c] k2 pt2) X.env = pure none := by rfl)
    (h1 : (assignEach [.Tuple [.Name x px, .Name y py, .Name z pz] kt pt] X.env).map (·.2) = [assign (.Tuple [.Name x px, .Name y py, .Name z pz] kt pt) X.env] := by rfl)
    (hs1 : starEach [a, b, c] X.env = (false, eval a X.env) :: starEach [b, c] X.env := by rfl) (hs2 : starEach [b, c] X.env = (false, eval b X.env) :: starEach [c] X.env := by rfl) (hs3 : starEach [c] X.env = (false, eval c X.env) :: starEach [] X.env := by rfl)
    (ha1 : (assignEach [.Name x px, .Name y py, .Name z pz] X.env).map (·.2) = assign (.Name x px) X.env :: (assignEach [.Name y py, .Name z pz] X.env).map (·.2) := by rfl) (ha2 : (assignEach [.Name y py, .Name z pz] X.env).map (·.2) = assign (.Name y py) X.env :: (assignEach [.Name z pz] X.env).map (·.2) := by rfl) (ha3 : (assignEach [.Name z pz] X.env).map (·.2) = assign (.Name z pz) X.env :: (assignEach [] X.env).map (·.2) := by rfl)
    (hn : (assignEach [.Name x px, .Name y py, .Name z pz] X.env).length = 3 := by rfl) (hst : (assignEach [.Name x px, .Name y py, .Name z pz] X.env).findIdx? (·.1) = none := by rfl)
    (hfx : X.fn x = true ∨ X.env.scope.names.lookup x = some .local := by first | exact .inl rfl | exact .inr rfl | assumption) (hfy : X.fn y = true ∨ X.env.scope.names.lookup y = some .local := by first | exact .inl rfl | exact .inr rfl | assumption) (hfz : X.fn z = true ∨ X.env.scope.names.lookup z = some .local := by first | exact .inl rfl | exact .inr rfl | assumption) :
    VS X E O (l :: i :: O) OL (.Assign [.Tuple [.Name x px, .Name y py, .Name z pz] kt pt] (.Tuple [a, b, c] k2 pt2) pos) (sPar3H i j l ma mb mc) := by
  obtain ⟨mna, ta, pa, fa⟩ := ha
  obtain ⟨mnb, tb, pb, fb⟩ := hb
  obtain ⟨mnc, tc, pcc, fc⟩ := hcc
  refine ⟨_, ps_asg (pe_tup (pa_cons pa (pa_cons pb (pa_cons pcc pa_nil hs3) hs2) hs1)) (pg_tup hc (pgs_cons (pg_name hN hNi hx hfx) (pgs_cons (pg_name hN hNj hy hfy) (pgs_cons (pg_name hN hNl hz hfz) pgs_nil ha3) ha2) ha1) hn hst) hs hw h1, fun aS A0 H0 σ H s n xq de De S L k h => ?_⟩
  obtain ⟨hl1, hl2, h⟩ := h
  have LF : ∀ A1, LX X.K E aS A1 H0 LFq := fun _ _ _ _ _ _ _ _ _ z => z.elim
  have hlσ : i < σ.length := by rw [S.len]; exact hl1
  refine fa aS A0 H0 σ H s n _ _ S (LF _) (mna _ _ _ _ _ (fun d1 n1 q p1 H1 z1 k1 st1 o1 => ?_) h)
  have S1 := S.stepA k1 st1 z1 o1.there
  refine fb aS _ H0 σ H1 s n1 _ _ S1 (LF _) (mnb _ _ _ _ _ (fun d2 n2 q2 v2 H2 k2 st2 r2 => ?_) q)
  have S2 := S1.step k2 st2
  refine fc aS _ H0 σ H2 s n2 _ _ S2 (LF _) (mnc _ _ _ _ _ (fun d3 n3 q3 p3 H3 z3 k3 st3 o3 => ?_) q2)
  have jO : j ∉ i :: O := fun z => (List.mem_cons.mp z).elim (fun z => hij z.symm) hj
  have lO : l ∉ i :: O := fun z => (List.mem_cons.mp z).elim (fun z => hil z.symm) hl
  have Sa := (S.own hi hi0 hl1 z1 k1 st1 o1).step k2 st2
  have T1 := Sa.set (i := j) jO (by rw [AV.own hi hlσ]; exact r2)
  have T2 := T1.own lO hl0 (by rw [List.length_set, List.length_set]; exact hl2) z3 k3 st3 (by rw [AV.set jO, AV.own hi hlσ]; exact o3)
  refine ⟨by rw [sizeLine_eq]; show 3 ≤ _; omega, fun p hp => ⟨p, [.ref p1, v2, .ref p3], rfl, .inl (.inl upd_same), rfl, ?_⟩⟩
  exact ⟨_, _, rfl, _, _, rfl, _, _, rfl, rfl, k.nx _ _ _ _ (T2.step (KpS.upd hp) (st3.upd hp)) q3⟩
end
end DL
namespace DL.K07
open PySem PySem.Spec PyProof.Rows L2
variable [TabC]
abbrev N__law_hungF : List Str := ["_law_state", "_law_names_here", "_law_row", "_law_found", "_law_k", "_law_name"]
def B__law_hungF : SM :=
  (sSeqF (sParEF 2 3 (eCall 2 sp__law_mix [] (up (fCons (fVar 0) (fCons (fVar 1) fNil)))) (up (fC (.dic [])))) (sSeqF (sFor (up (fEnum (fVar 2))) (upG (fgTp (fgsCons (fgNm 4) (fgsCons (fgNm 5) fgsNil)))) (sDput 3 (up (fVar 5)) (eCall 2 sp__law_one [] (up (fCons (fVar 0) (fCons (fBin dAdd (fLst (fCons (fC (.str "clock")) fNil)) (fSl (fVar 2) fNone (fSome (fVar 4)))) fNil)))))) (upS (fRet (fVar 3)))))
abbrev N_is_anchor : List Str := ["thing", "names"]
def B_is_anchor : FS :=
  (fRet (fOr (fBin dEq (fVar 0) (fC (.str "clock"))) (fBin dIn (fVar 0) (fBlt dListM (fCons (fVar 1) fNil)))))
def f_is_anchor : FFn := runB N_is_anchor B_is_anchor
abbrev N_way_up : List Str := ["anchors", "name", "found", "here"]
def b_way_up_1 : FS := (fSeq (fApp 2 (fVar 3)) (fSet 3 (fMget2 (fVar 0) (fVar 3) (fC (.str "clock")))))
def B_way_up : FS :=
  (fSeq (fSetF 2 (fLst fNil)) (fSeq (fSet 3 (fMget2 (fVar 0) (fVar 1) (fC (.str "clock")))) (fSeq (fWhile (fAndT (fBinT dNe (fVar 3) (fC (.str "clock"))) (fBinT dNotIn (fVar 3) (fVar 2))) (b_way_up_1)) (fRet (fVar 2)))))
def f_way_up : FFn := runB N_way_up B_way_up
abbrev N_round_from : List Str := ["anchors", "name", "found"]
def b_round_from_1 : FS := (fApp 2 (fBin dIdxM (fVar 0) (fBin dIdx (fVar 2) (fNeg (fC (.int 1))))))
def B_round_from : FS :=
  (fSeq (fSetF 2 (fLst (fCons (fVar 1) fNil))) (fSeq (fWhile (fBinT dNe (fBin dIdxM (fVar 0) (fBin dIdx (fVar 2) (fNeg (fC (.int 1))))) (fVar 1)) (b_round_from_1)) (fRet (fVar 2))))
def f_round_from : FFn := runB N_round_from B_round_from
abbrev N_check_rounds : List Str := ["anchors", "name"]
def b_check_rounds_1 : FS := (fIfS (fBinT dIn (fVar 1) (fCall 2 f_way_up [] (fCons (fVar 0) (fCons (fVar 1) fNil)))) (fRaise "Round" ["names"] (fCons (fCall 2 f_round_from [] (fCons (fVar 0) (fCons (fVar 1) fNil))) fNil)) fNilS)
def B_check_rounds : FS :=
  (fFor (fIter (fCall 1 f_rising [] (fCons (fBlt dListM (fCons (fVar 0) fNil)) fNil))) (fgNm 1) (b_check_rounds_1))
def f_check_rounds : FFn := runB N_check_rounds B_check_rounds
abbrev N_Hanging___init__ : List Str := ["self", "rows", "name", "anchor"]
def b_Hanging___init___1 : FS := (fIfS (fOrT (fNotT (fVal (fCall 1 f_is_name [] (fCons (fVar 2) fNil)))) (fNotT (fVal (fCall 2 f_is_anchor [] (fCons (fVar 3) (fCons (fVar 1) fNil)))))) (fRaise "BadRow" ["name"] (fCons (fVar 2) fNil)) fNilS)
def B_Hanging___init__ : FS :=
  (fSeq (fForM (fun s => (s[1]?).join) rowsM (fgTp (fgsCons (fgNm 2) (fgsCons (fgNm 3) fgsNil))) (b_Hanging___init___1)) (fSeq (fDrop (fCall 1 f_check_rounds [] (fCons (fVar 1) fNil))) (fFldS 0 "Hanging" "anchors" (fDc (fIter (fCall 1 f_rising [] (fCons (fBlt dListM (fCons (fVar 1) fNil)) fNil))) [2] (fgNm 2) fYes (fVar 2) (fBin dIdxM (fVar 1) (fVar 2))))))
def f_Hanging___init__ : FFn := runI "Hanging" N_Hanging___init__ B_Hanging___init__
abbrev N__law_is_name : List Str := ["_law_thing", "_law_letters", "_law_sign"]
def B__law_is_name : FS :=
  (fSeq (fSet 1 (fC (.str "abcdefghijklmnopqrstuvwxyz"))) (fSeq (fIfS (fOrT (fNotT (fVal (fBlt dIsi (fCons (fVar 0) (fCons (fC (.raw (.ty "str"))) fNil))))) (fOrT (fBinT dEq (fVar 0) (fC (.str "clock"))) (fNotT (fChainT dLe dLe (fC (.int 1)) (fBlt dLen (fCons (fVar 0) fNil)) (fC (.int 8)))))) (fRet (fC (.bl false))) fNilS) (fRet (fBlt dAll (fCons (fLc (fIter (fVar 0)) [2] (fgNm 2) fYes (fBin dIn (fVar 2) (fVar 1))) fNil)))))
def f__law_is_name : FFn := runB N__law_is_name B__law_is_name
abbrev N__law_rising : List Str := ["_law_things", "_law_found", "_law_thing", "_law_x"]
def b__law_rising_1 : FS := (fIns 1 (fCons (fBlt dLen (fCons (fLc (fOwnL 1) ([3] ++ [1]) (fgNm 3) (fBinT dLe (fVar 3) (fVar 2)) (fVar 3)) fNil)) (fCons (fVar 2) fNil)))
def B__law_rising : FS :=
  (fSeq (fSetF 1 (fLst fNil)) (fSeq (fForM (fun s => (s[0]?).join) keysM (fgNm 2) (b__law_rising_1)) (fRet (fVar 1))))
def f__law_rising : FFn := runB N__law_rising B__law_rising
abbrev N__law_due : List Str := ["_law_rows", "_law_bad", "_law_name", "_law_here", "_law_turn", "_law_round_of"]
def b__law_due_1 : FS := (fSeq (fSet 3 (fAnd (fBlt dIsi (fCons (fBin dIdxM (fVar 0) (fVar 2)) (fCons (fC (.raw (.ty "str"))) fNil))) (fOr (fBin dEq (fBin dIdxM (fVar 0) (fVar 2)) (fC (.str "clock"))) (fBin dInM (fBin dIdxM (fVar 0) (fVar 2)) (fVar 0))))) (fIfS (fOrT (fNotT (fVal (fCall 1 f__law_is_name [] (fCons (fVar 2) fNil)))) (fOrT (fNotT (fVal (fVar 3))) (fBinT dIn (fVar 2) (fVar 1)))) (fRet (fTup (fCons (fC (.str "row")) (fCons (fVar 2) fNil)))) fNilS))
def b__law_due_2 : FS := (fIfS (fAndT (fBinT dNe (fVar 3) (fC (.str "clock"))) (fAndT (fBinT dNe (fVar 3) (fVar 2)) (fBinT dLe (fBlt dLen (fCons (fVar 5) fNil)) (fBlt dLenM (fCons (fVar 0) fNil))))) (fPar 5 3 (fBin dAdd (fVar 5) (fLst (fCons (fVar 3) fNil))) (fBin dIdxM (fVar 0) (fVar 3))) fNilS)
def b__law_due_3 : FS := (fSeq (fPar 5 3 (fLst (fCons (fVar 2) fNil)) (fBin dIdxM (fVar 0) (fVar 2))) (fSeq (fForM (fun s => (s[0]?).join) keysM (fgNm 4) (b__law_due_2)) (fIfS (fBinT dEq (fVar 3) (fVar 2)) (fRet (fTup (fCons (fC (.str "round")) (fCons (fVar 5) fNil)))) fNilS)))
def B__law_due : FS :=
  (fSeq (fForM (fun s => (s[0]?).join) keysM (fgNm 2) (b__law_due_1)) (fSeq (fFor (fIter (fCall 1 f__law_rising [] (fCons (fVar 0) fNil))) (fgNm 2) (b__law_due_3)) (fRet (fC .non))))
def f__law_due : FFn := runB N__law_due B__law_due
abbrev N__law_same : List Str := ["_law_found", "_law_due_here", "_law_x", "_law_y"]
def B__law_same (sf : FFn) : FS :=
  (fSeq (fIfS (fVal (fBlt dIsi (fCons (fVar 1) (fCons (fTup (fCons (fC (.raw (.ty "list"))) (fCons (fC (.raw (.ty "tuple"))) fNil))) fNil)))) (fSeq (fIfS (fOrT (fBinT dNeX (fBlt dIsi (fCons (fVar 0) (fCons (fC (.raw (.ty "list"))) fNil))) (fBlt dIsi (fCons (fVar 1) (fCons (fC (.raw (.ty "list"))) fNil)))) (fBinT dNeX (fBlt dIsi (fCons (fVar 0) (fCons (fC (.raw (.ty "tuple"))) fNil))) (fBlt dIsi (fCons (fVar 1) (fCons (fC (.raw (.ty "tuple"))) fNil))))) (fRet (fC (.bl false))) fNilS) (fRet (fAnd (fBin dEqX (fBlt dLen (fCons (fVar 0) fNil)) (fBlt dLen (fCons (fVar 1) fNil))) (fBlt dAll (fCons (fLc (fZip (fVar 0) (fVar 1)) [2, 3] (fgTp (fgsCons (fgNm 2) (fgsCons (fgNm 3) fgsNil))) fYes (fCall 2 sf [] (fCons (fVar 2) (fCons (fVar 3) fNil)))) fNil))))) fNilS) (fSeq (fIfS (fVal (fBlt dIsi (fCons (fVar 1) (fCons (fC (.raw (.ty "int"))) fNil)))) (fRet (fAnd (fBlt dIsi (fCons (fVar 0) (fCons (fC (.raw (.ty "int"))) fNil))) (fAnd (fBin dEqX (fBlt dIsi (fCons (fVar 0) (fCons (fC (.raw (.ty "bool"))) fNil))) (fBlt dIsi (fCons (fVar 1) (fCons (fC (.raw (.ty "bool"))) fNil)))) (fBin dEqX (fVar 0) (fVar 1))))) fNilS) (fRet (fAnd (fBin dIs (fBlt dIsi (fCons (fVar 0) (fCons (fTup (fCons (fC (.raw (.ty "int"))) (fCons (fC (.raw (.ty "list"))) (fCons (fC (.raw (.ty "tuple"))) fNil)))) fNil))) (fC (.bl false))) (fBin dEqX (fVar 0) (fVar 1))))))
def r__law_same : Nat → FFn
  | 0 => fun _ => .bad
  | k + 1 => runB N__law_same (B__law_same (r__law_same k))
def f__law_same : FFn := r__law_same 6
abbrev N_is_book_row : List Str := ["thing", "names"]
def B_is_book_row : FS :=
  (fSeq (fIfS (fOrT (fNotT (fVal (fCall 1 f_is_list [] (fCons (fVar 0) fNil)))) (fOrT (fBinT dNe (fBlt dLen (fCons (fVar 0) fNil)) (fC (.int 2))) (fNotT (fVal (fCall 2 f_is_anchor [] (fCons (fBin dIdx (fVar 0) (fC (.int 0))) (fCons (fVar 1) fNil))))))) (fRet (fC (.bl false))) fNilS) (fRet (fAnd (fCall 1 f_is_integer [] (fCons (fBin dIdx (fVar 0) (fC (.int 1))) fNil)) (fBin dGe (fBin dIdx (fVar 0) (fC (.int 1))) (fC (.int 0))))))
def f_is_book_row : FFn := runB N_is_book_row B_is_book_row
abbrev N_Book___init__ : List Str := ["self", "rows", "name", "pair"]
def b_Book___init___1 : FS := (fIfS (fOrT (fNotT (fVal (fCall 1 f_is_name [] (fCons (fVar 2) fNil)))) (fNotT (fVal (fCall 2 f_is_book_row [] (fCons (fVar 3) (fCons (fVar 1) fNil)))))) (fRaise "BadRow" ["name"] (fCons (fVar 2) fNil)) fNilS)
def B_Book___init__ : FS :=
  (fSeq (fForM (fun s => (s[1]?).join) rowsM (fgTp (fgsCons (fgNm 2) (fgsCons (fgNm 3) fgsNil))) (b_Book___init___1)) (fSeq (fDrop (fCall 1 f_check_rounds [] (fCons (fMix (fDcM (fun s => (s[1]?).join) rowsM [2, 3] (fgTp (fgsCons (fgNm 2) (fgsCons (fgNm 3) fgsNil))) fYes (fVar 2) (fBin dIdx (fVar 3) (fC (.int 0))))) fNil))) (fFldS 0 "Book" "pairs" (fDc (fIter (fCall 1 f_rising [] (fCons (fBlt dListM (fCons (fVar 1) fNil)) fNil))) [2] (fgNm 2) fYes (fVar 2) (fBlt dTuple (fCons (fBin dIdxM (fVar 1) (fVar 2)) fNil))))))
def f_Book___init__ : FFn := runI "Book" N_Book___init__ B_Book___init__
abbrev N_law : List Str := ["_law_script", "_law_state", "_law_turn", "_law_names_here", "_law_bend", "_law_key", "_law_name", "_law_pairs", "_law_odd", "_law_rows", "_law_bad", "_law_waits", "_law_x"]
def B_law : SM :=
  (sSeq (sFor (up (fRange1 (fC (.int 8)))) (upG (fgNm 2)) (sSeq (sSet 3 (eCall 2 sp__law_names [] (eCons (up (fVar 1)) (eCons (eBin dAdd (up (fC (.int 1))) (eCall 2 sp__law_take [] (up (fCons (fVar 1) (fCons (fC (.int 5)) fNil))))) (up fNil))))) (sSeq (sPar3H 9 10 11 (eCall 2 sp__law_hungF [] (up (fCons (fVar 1) (fCons (fVar 3) fNil)))) (up (fLst fNil)) (up (fMix (fC (.dic []))))) (sSeq (sFor (eRange1 (eCall 2 sp__law_take [] (up (fCons (fVar 1) (fCons (fC (.int 4)) fNil))))) (upG (fgNm 4)) (sSeq (sSet 6 (eCall 2 sp__law_one [] (up (fCons (fVar 1) (fCons (fVar 3) fNil))))) (sSeq (upS (fSet 8 (fLst (fCons (fC (.str "nobody")) (fCons (fC (.str "")) (fCons (fC .non) (fCons (fC (.int 5)) (fCons (fLst fNil) (fCons (fTup (fCons (fC (.str "clock")) (fCons (fC (.int 0)) fNil))) (fCons (fC (.bl true)) (fCons (fC (.str "Clock")) fNil))))))))))) (sDput 9 (up (fVar 6)) (eCall 2 sp__law_one [] (eCons (up (fVar 1)) (eCons (eBin dAdd (up (fBin dAdd (fVar 3) (fVar 3))) (eLst (eCons (eCall 2 sp__law_one [] (up (fCons (fVar 1) (fCons (fVar 8) fNil)))) (up fNil)))) (up fNil)))))))) (sSeq (sSet 5 (eCall 2 sp__law_one [] (up (fCons (fVar 1) (fCons (fLst (fCons (fC (.str "clock")) (fCons (fC (.str "")) (fCons (fC (.str "A")) (fCons (fC (.int 5)) (fCons (fC .non) (fCons (fTup (fCons (fC (.str "a")) fNil)) fNil))))))) fNil))))) (sSeq (sToM 9 (sIf (tAndD (eBinT dEq (eCall 2 sp__law_take [] (up (fCons (fVar 1) (fCons (fC (.int 4)) fNil)))) (up (fC (.int 0)))) (up (fOrT (fVal (fBlt dIsi (fCons (fVar 5) (fCons (fC (.raw (.ty "str"))) fNil)))) (fBinT dNotIn (fVar 5) (fListValsO 9))))) (upS (fSetF 9 (fBlt dDictM (fCons (fBin dAdd (fListRows (fVar 9)) (fLst (fCons (fTup (fCons (fVar 5) (fCons (fC (.str "clock")) fNil))) fNil))) fNil)))) (upS fNilS))) (sSeq (upS (fIfS (fNotT (fVal (fCall 2 f__law_same [] (fCons (fTried .drop [("BadRow", some 2, .fld "row" "name"), ("Round", some 2, .lst "round" "names")] [11] (fMake 2 f_Hanging___init__ [] (fCons (fVar 9) fNil))) (fCons (fCall 2 f__law_due [] (fCons (fVar 9) (fCons (fLst fNil) fNil))) fNil))))) (fRet (fC (.bl false))) fNilS)) (sSeq (sForM (fun s => (s[9]?).join) keysM (upG (fgNm 6)) (sSeq (sMput 11 (up (fVar 6)) (eCall 2 sp__law_take [] (up (fCons (fVar 1) (fCons (fC (.int 9)) fNil))))) (sIf (eBinT dEq (eCall 2 sp__law_take [] (up (fCons (fVar 1) (fCons (fC (.int 12)) fNil)))) (up (fC (.int 0)))) (sMputN 11 10 (up (fVar 6)) (up (fBin dAdd (fVar 10) (fLst (fCons (fVar 6) fNil)))) (eCall 2 sp__law_one [] (up (fCons (fVar 1) (fCons (fLst (fCons (fNeg (fC (.int 1))) (fCons (fC .non) (fCons (fC (.str "1")) (fCons (fC (.bl true)) (fCons (fLst fNil) (fCons (fNeg (fC (.int 999999999))) fNil))))))) fNil))))) (upS fNilS)))) (sSeq (upS (fSetF 7 (fBlt dDictM (fCons (fLcM (fun s => (s[9]?).join) keysM [6] (fgNm 6) fYes (fTup (fCons (fVar 6) (fCons (fTup (fCons (fBin dIdxM (fVar 9) (fVar 6)) (fCons (fBin dIdxM (fVar 11) (fVar 6)) fNil))) fNil)))) fNil)))) (sSeq (upS (fIfS (fNotT (fVal (fCall 2 f__law_same [] (fCons (fTried .drop [("BadRow", some 2, .fld "row" "name"), ("Round", some 2, .lst "round" "names")] [11] (fMake 2 f_Book___init__ [] (fCons (fVar 7) fNil))) (fCons (fCall 2 f__law_due [] (fCons (fVar 9) (fCons (fVar 10) fNil))) fNil))))) (fRet (fC (.bl false))) fNilS)) (sSeq (sSet 6 (eCall 2 sp__law_one [] (up (fCons (fVar 1) (fCons (fVar 3) fNil))))) (sSeq (sSet 8 (eCall 2 sp__law_one [] (up (fCons (fVar 1) (fCons (fLst (fCons (fC .non) (fCons (fC (.int 5)) (fCons (fC (.str "clock")) (fCons (fTup (fCons (fC (.str "clock")) fNil)) (fCons (fTup (fCons (fC (.str "clock")) (fCons (fC (.int 1)) (fCons (fC (.int 2)) fNil)))) (fCons (fLst fNil) (fCons (fC (.dic [])) (fCons (fLst (fCons (fLst (fCons (fC (.str "clock")) (fCons (fC (.int 1)) fNil))) fNil)) fNil))))))))) fNil))))) (upS (fSeq (fSetF 7 (fBlt dDictM (fCons (fLc (fIter (fVar 3)) [12] (fgNm 12) fYes (fTup (fCons (fVar 12) (fCons (fTup (fCons (fC (.str "clock")) (fCons (fC (.int 0)) fNil))) fNil)))) fNil))) (fSeq (fMput 7 (fVar 6) (fVar 8)) (fIfS (fNotT (fVal (fCall 2 f__law_same [] (fCons (fTried .drop [("BadRow", some 2, .fld "row" "name"), ("Round", some 2, .lst "round" "names")] [11] (fMake 2 f_Book___init__ [] (fCons (fVar 7) fNil))) (fCons (fTup (fCons (fC (.str "row")) (fCons (fVar 6) fNil))) fNil))))) (fRet (fC (.bl false))) fNilS)))))))))))))))) (upS (fRet (fC (.bl true)))))
end DL.K07
namespace DL
open PySem PySem.Spec PyProof.Rows L2
variable [TabC]
theorem lv {X : Cx} {E : XK} {O : List Nat} {x : Str} {pos : Pos} (i : Nat) (hi : i ∉ O := by decide) (hN : X.N[i]? = some x := by rfl) (hv : Vis X.env.scope x := by first | exact .inl rfl | exact .inr (.inl rfl) | exact .inr (.inr rfl))
    (hd : (x == ("__debug__" : Str)) = false := by decide) (hcd : (x == ("__classdict__" : Str)) = false := by decide) : VE X E O (.Name x pos) (up (fVar i)) := lo (ve_var hi hN hv hd hcd) (le_var _)
theorem cxq {P : Program} {w : World} {K : PySem.W.Frag} {mg : Str → Option Value} {base : Heap} (N : List Str) (qual : Str) (scope : Scope) (f : Addr) (cdv : Value) (A : Around) (outer : List Env) (s : Shared) (H : Hp) (E : XK) :
    TK (CxD P w K mg base N qual scope f cdv A outer s H E) (EU H E) ∧ PassesOwn (model P w) (CxD P w K mg base N qual scope f cdv A outer s H E).A (CxD P w K mg base N qual scope f cdv A outer s H E).env (CxD P w K mg base N qual scope f cdv A outer s H E).xe ∧ UC (CxD P w K mg base N qual scope f cdv A outer s H E) (EU H E) := ⟨cx_tk, cx_po, cx_uc⟩
end DL
namespace DL
open PySem PySem.Spec PyProof.Rows L2
variable [TabC]
section
variable {X : Cx} {E : XK} {O O' O'' OL : List Nat} {e a b o : Expr} {es : List Expr} {pos : Pos} {x : Str} {R : RK} {fa fb : FM D} {fl : FM (List D)}
theorem aN : VA R X E O [] (up fNil) := loA va_nil le_nil
theorem aC (h : VX Rep X E O e (up fa)) (hl : VA Rep X E O es (up fl)) (hs : starEach (e :: es) X.env = (false, eval e X.env) :: starEach es X.env := by rfl) : VA Rep X E O (e :: es) (up (fCons fa fl)) := loA (va_cons stbE h hl hs) le_cons
theorem aB (h : VX RepB X E O e (up fa)) (hl : VA RepB X E O es (up fl)) (hs : starEach (e :: es) X.env = (false, eval e X.env) :: starEach es X.env := by rfl) : VA RepB X E O (e :: es) (up (fCons fa fl)) := loA (va_cons stbB h hl hs) le_cons
theorem eI {i j pos} : VE X E O (.Constant (.int i) j pos) (up (fC (.int i))) := lo ve_int le_c
theorem eS {x j pos} : VE X E O (.Constant (.str x) j pos) (up (fC (.str x))) := lo ve_str le_c
theorem eX {k : Nat} (hr : Room k X.A) (ha : VE X E O a (up fa)) (hb : VE X E O b (up fb)) (hp : PlainIx b := by exact fun _ _ => rfl) : VE X E O (.Subscript a b pos) (up (fBin dIdx fa fb)) := lo (ve_sub (Room.u hr) ha.b hb.b hp) le_bin
theorem eG {p : Pos} {ps : List Str} {k k' : Nat} {f : FFn} (tk : TK X E) {len : Nat} (G : GFn X.prog X.w X.K X.mg X.base x k ps (lift X.K len (FSp.of f))) (hr : Room k' X.A) (ha : VA Rep X E O (e :: es) (up fl)) (hl : ps.length = len := by rfl) (hk : k ≤ k' := by decide) (hg : Gl X x := by rfl) (hdb : (x == ("__debug__" : Str)) = false := by decide)
    (h1 : starEach (e :: es) X.env = (false, eval e X.env) :: starEach es X.env := by rfl) (h2 : (backTo pos (starEach es X.env)).any (·.1) = false := by rfl) : VE X E O (.Call (.Name x p) (e :: es) [] pos) (up (fCall len f [] fl)) := lo (ve_g tk hl G hr hk hg ha hdb h1 h2) le_call
theorem sR (h : VE X E O e (up fa)) : VS X E O O' OL (.Return (some e) pos) (upS (fRet fa)) := loS (vs_ret h) ls_ret
theorem tC {op : CmpOp} {f : D → D → Option D} (h : OpD X (compareOp op) f) (ha : VE X E O a (up fa)) (hb : VE X E O b (up fb)) (hm : behindInMarks op b = false := by first | rfl | exact nomark _) : VT X E O (.Compare a [op] [b] pos) (up (fBinT f fa fb)) := loT (vt_cmp h ha.b hb.b hm) le_binT
theorem sC {st : Stmt} {rest : List Stmt} {f g : FS} (h : VS X E O O' OL st (upS f)) (k : VSs X E O' O'' OL rest (upS g)) : VSs X E O O'' OL (st :: rest) (upS (fSeq f g)) := loSs (vss_cons h k) ls_seq
theorem sS {p' : Pos} (i : Nat) (nd : X.N.Nodup) (h : VE X E O e (up fa)) (hi : i ∉ O := by decide) (hN : X.N[i]? = some x := by rfl) (hx : Loc X.env.scope x := by first | exact .inl rfl | exact .inr rfl) (hs : swapsWith e (some (.Name x p')) pos.line X.env = pure false := by rfl)
    (hf : X.fn x = true ∨ X.env.scope.names.lookup x = some .local := by first | exact .inl rfl | exact .inr rfl | assumption) : VS X E O O OL (.Assign [.Name x p'] e pos) (upS (fSet i fa)) := loS (vs_set hi nd hN hx h hs hf) ls_set
theorem gN (i : Nat) (nd : X.N.Nodup) (hi : i ∉ O := by decide) (hN : X.N[i]? = some x := by rfl) (hx : Loc X.env.scope x := by first | exact .inl rfl | exact .inr rfl) (hf : X.fn x = true ∨ X.env.scope.names.lookup x = some .local := by first | exact .inl rfl | exact .inr rfl | assumption) : VG X O [i] (.Name x pos) (gNm i) := vg_name hi nd hN hx hf
theorem pV (i : Nat) (hi : i ∉ O := by decide) (hN : X.N[i]? = some x := by rfl) (hv : Vis X.env.scope x := by first | exact .inl rfl | exact .inr (.inl rfl) | exact .inr (.inr rfl)) (hd : (x == ("__debug__" : Str)) = false := by decide) (hcd : (x == ("__classdict__" : Str)) = false := by decide) : VP X O (.Name x pos) fun s => (s[i]?).join := vp_var hi hN hv hd hcd
theorem fsQ {N P : List Str} {sc : Scope} (h1 : sc.kind = .function := by rfl) (h2 : sc.isCoroutine = false := by rfl) (h3 : sc.isGenerator = false := by rfl) (h4 : N.Nodup := by decide +kernel) (h5 : N.take P.length = P := by rfl)
    (h6 : ∀ x ∈ P, sc.names.lookup x = some .local ∨ sc.names.lookup x = some .cell := by decide +kernel) (h7 : ∀ y ∈ sc.names, y.2 ≠ .free := by decide +kernel) : FnScope N P sc := ⟨h1, h2, h3, h4, h5, h6, h7⟩
end
end DL
namespace DL.K07
open PySem PySem.Spec PyProof.Rows L2 HX
variable [TabC]
variable {P : Program} {w : World} {K : PySem.W.Frag} {mg : Str → Option Value} {base : Heap}
abbrev k__law_take : Nat := 1
abbrev k__law_mix : Nat := 2
theorem sc__law_mix : FnScope N__law_mix ["_law_state", "_law_things"] (defScope (top 34)) := fsQ
theorem d__law_mix (G__law_take : GFn P w K mg base "_law_take" k__law_take ["_law_state", "_law_many"] (lift K 2 sp__law_take)) (f_len : mg "len" = none) (f_list : mg "list" = none) : Body P w K mg base N__law_mix "_law_mix" (defScope (top 34)) 1 [] [3, 2] (defBody (top 34)) (B__law_mix) := by
  have nd := sc__law_mix.nd
  intro f cdv A outer s H E hr
  have ⟨tk, po, _⟩ := cxq (P := P) (w := w) (K := K) (mg := mg) (base := base) N__law_mix "_law_mix" (defScope (top 34)) f cdv A outer s H E
  exact vss_cons (loS (vs_parFF (i := 2) (j := 3) (by decide) (by decide) (by decide) (by decide) rfl nd rfl rfl (by decide) rfl rfl (loF (vf_callTy (cf_list rfl) rfl f_list boot_list (aB (VE.b (lv 1)) aN)) le_blt) (loF (vf_lst aN) le_lst) rfl) ls_parFF) (vss_cons (vs_while po (loT (vt_cmp (od_ne (Room.u64 hr)) (lo (vb_var (i := 2) (by decide) rfl (by first | exact .inl rfl | exact .inr (.inl rfl) | exact .inr (.inr rfl))) (le_var _)) (VE.b (VF.ve (loF (vf_lst aN) le_lst))) (nomark _)) le_binT) (vss_one (vs_appPop (i := 2) (j := 3) (by decide) (by decide) (by decide) rfl (by first | exact .inl rfl | exact .inr (.inl rfl) | exact .inr (.inr rfl)) rfl (by first | exact .inl rfl | exact .inr (.inl rfl) | exact .inr (.inr rfl)) (ve_g tk rfl G__law_take hr (by decide) rfl (aC (lv 0) (aC (lo (ve_callB cd_len rfl f_len boot_len (aB (lo (vb_var (i := 2) (by decide) rfl (by first | exact .inl rfl | exact .inr (.inl rfl) | exact .inr (.inr rfl))) (le_var _)) aN)) le_blt) aN)))))) (vss_one (loS (vs_retO (i := 3) (by decide) rfl (by first | exact .inl rfl | exact .inr (.inl rfl) | exact .inr (.inr rfl))) ls_retV)))
abbrev k__law_names : Nat := 3
theorem sc__law_names : FnScope N__law_names ["_law_state", "_law_many"] (defScope (top 36)) := fsQ
theorem d__law_names (G__law_mix : GFn P w K mg base "_law_mix" k__law_mix ["_law_state", "_law_things"] (lift K 2 sp__law_mix)) : Body P w K mg base N__law_names "_law_names" (defScope (top 36)) 2 [] [] (defBody (top 36)) (B__law_names) := by
  have nd := sc__law_names.nd
  intro f cdv A outer s H E hr
  have ⟨tk, _, _⟩ := cxq (P := P) (w := w) (K := K) (mg := mg) (base := base) N__law_names "_law_names" (defScope (top 36)) f cdv A outer s H E
  exact vss_cons (sS 2 nd (VF.ve (loF (vf_lst (aC eS (aC eS (aC eS (aC eS (aC eS (aC eS (aC eS (aC eS aN))))))))) le_lst))) (vss_one (vs_ret (ve_slice (VE.b (ve_g tk rfl G__law_mix hr (by decide) rfl (aC (lv 0) (aC (lo (ve_bin od_add (VE.b (lv 2)) (VE.b (VF.ve (loF (vf_lst (aC eS (aC eS (aC eS (aC eS (aC eS (aC eS (aC eS (aC eS aN))))))))) le_lst)))) le_bin) aN)))) (loO vo_none le_none) (loO (vo_some (VE.b (lv 1))) le_some))))
abbrev k__law_one : Nat := 2
theorem sc__law_one : FnScope N__law_one ["_law_state", "_law_things"] (defScope (top 33)) := fsQ
theorem d__law_one (G__law_take : GFn P w K mg base "_law_take" k__law_take ["_law_state", "_law_many"] (lift K 2 sp__law_take)) (f_len : mg "len" = none) : Body P w K mg base N__law_one "_law_one" (defScope (top 33)) 1 [] [] (defBody (top 33)) (B__law_one) := by
  have nd := sc__law_one.nd
  intro f cdv A outer s H E hr
  have ⟨tk, _, _⟩ := cxq (P := P) (w := w) (K := K) (mg := mg) (base := base) N__law_one "_law_one" (defScope (top 33)) f cdv A outer s H E
  exact vss_one (vs_ret (ve_sub (Room.u hr) (VE.b (lv 1)) (VE.b (ve_g tk rfl G__law_take hr (by decide) rfl (aC (lv 0) (aC (lo (ve_callB cd_len rfl f_len boot_len (aB (VE.b (lv 1)) aN)) le_blt) aN)))) (fun _ _ => rfl)))
abbrev k__law_hungF : Nat := 3
theorem sc__law_hungF : FnScope N__law_hungF ["_law_state", "_law_names_here"] (defScope (top 38)) := fsQ
theorem d__law_hungF (G__law_mix : GFn P w K mg base "_law_mix" k__law_mix ["_law_state", "_law_things"] (lift K 2 sp__law_mix)) (G__law_one : GFn P w K mg base "_law_one" k__law_one ["_law_state", "_law_things"] (lift K 2 sp__law_one)) (f_enumerate : mg "enumerate" = none) : BodyF P w K mg base N__law_hungF "_law_hung" (defScope (top 38)) 2 (defBody (top 38)) (B__law_hungF) := by
  have nd := sc__law_hungF.nd
  intro f cdv A outer s H E hr
  have ⟨tk, po, _⟩ := cxq (P := P) (w := w) (K := K) (mg := mg) (base := base) N__law_hungF "_law_hung" (defScope (top 38)) f cdv A outer s H E
  exact vssF_cons (vs_parEF (i := 2) (j := 3) (by decide) (by decide) (by decide) rfl nd rfl rfl (by decide) rfl rfl (ve_g tk rfl G__law_mix hr (by decide) rfl (aC (lv 0) (aC (lv 1) aN))) (loF vf_dic0 le_c) rfl) (vssF_cons (vs_for po rfl (loIs (vi_enum rfl f_enumerate (lv 2)) le_enum) (loG (vg_tup rfl (vgs_cons (gN 4 nd) (vgs_cons (gN 5 nd) (vgs_nil))) (fun _ _ _ h => ((gsok_cons gok_nm (gsok_cons gok_nm (gsok_nil))) _ _ _ h).1)) (lg_tp (lgs_cons (lg_nm) (lgs_cons (lg_nm) (lgs_nil))))) (vss_one (vs_dput (i := 3) (Room.u hr) (by decide) rfl (by first | exact .inl rfl | exact .inr (.inl rfl) | exact .inr (.inr rfl)) (lv 5) (ve_g tk rfl G__law_one hr (by decide) rfl (aC (lv 0) (aC (lo (ve_bin od_add (VE.b (VF.ve (loF (vf_lst (aC eS aN)) le_lst))) (VE.b (lo (ve_slice (VE.b (lv 2)) (loO vo_none le_none) (loO (vo_some (VE.b (lv 4))) le_some)) le_sl))) le_bin) aN)))))) (loSF (vssF_retO (i := 3) (by decide) rfl (by first | exact .inl rfl | exact .inr (.inl rfl) | exact .inr (.inr rfl))) ls_retV))
abbrev k_is_name : Nat := 1
theorem sc_is_name : FnScope N_is_name ["thing"] (defScope (top 15)) := fsQ
theorem d_is_name (c_CLOCK : ∃ t, mg "CLOCK" = some (.str "clock" t)) (c_LETTERS : ∃ t, mg "LETTERS" = some (.str "abcdefghijklmnopqrstuvwxyz" t)) (c_MOST_LETTERS : ∃ t, mg "MOST_LETTERS" = some (.int 8 t)) (f_all : mg "all" = none) (f_isinstance : mg "isinstance" = none) (f_len : mg "len" = none) (f_str : mg "str" = none) : Body P w K mg base N_is_name "is_name" (defScope (top 15)) 0 [] [] (defBody (top 15)) (upS (B_is_name)) := by
  have nd := sc_is_name.nd
  intro f cdv A outer s H E hr
  exact sC (loS (vs_if (VW.t (loW (vw_or (loT (vt_not (loT (vt_val (lo (ve_callB cd_isi rfl f_isinstance boot_isinstance (aB (VE.b (lv 0)) (aB (VE.b (lo (ve_bty (T := "str") rfl f_str boot_str) le_c)) aN))) le_blt)) le_val)) le_notT) (loW (vw_or (tC (od_eq (Room.u64 hr)) (lv 0) (lo (ve_gstr rfl c_CLOCK) le_c)) (vw_or1 (loT (vt_not (loT (vt_chain (od_le (Room.u64 hr)) (od_le (Room.u64 hr)) (VE.b eI) (VE.b (lo (ve_callB cd_len rfl f_len boot_len (aB (VE.b (lv 0)) aN)) le_blt)) (VE.b (lo (ve_gint rfl c_MOST_LETTERS) le_c))) le_chainT)) le_notT))) le_orT)) le_orT)) (vss_one (sR (lo (ve_bl) le_c))) (loSs vss_nil ls_nil)) ls_if) (vss_one (sR (lo (ve_callB (cd_all rfl) rfl f_all boot_all (aB (VE.b (VF.ve (loF (xf_lc rfl rfl nd (VIs.vi (loIs (vi_seq (lv 0)) le_iter)) (blkOk_by (own := [("sign", 1)]) (N := N_is_name) (sc := defScope (top 15)) (by decide +kernel)) (by decide) (by decide) (fun c => loG (gN 1 nd) (lg_nm)) (fun c => loTs vts_nil le_yes) (fun c => lo (ve_cmp (od_in (Room.u65 hr)) (VE.b (lv 1)) (VE.b (lo (ve_gstr rfl c_LETTERS) le_c)) rfl) le_bin)) le_lc))) aN)) le_blt)))
abbrev k_is_anchor : Nat := 1
theorem sc_is_anchor : FnScope N_is_anchor ["thing", "names"] (defScope (top 21)) := fsQ
theorem d_is_anchor (c_CLOCK : ∃ t, mg "CLOCK" = some (.str "clock" t)) (f_list : mg "list" = none) (hw : w = TabC.w) : Body P w K mg base N_is_anchor "is_anchor" (defScope (top 21)) 0 [] [] (defBody (top 21)) (upS (B_is_anchor)) := by
  have nd := sc_is_anchor.nd
  intro f cdv A outer s H E hr
  exact vss_one (sR (lo (ve_or (lo (ve_cmp (od_eq (Room.u64 hr)) (VE.b (lv 0)) (VE.b (lo (ve_gstr rfl c_CLOCK) le_c)) (nomark _)) le_bin) (ve_one (lo (ve_cmp (od_in (Room.u65 hr)) (VE.b (lv 0)) (VE.b (VF.ve (loF (vf_callTy (cf_listM hw rfl) rfl f_list boot_list (aB (VE.b (lv 1)) aN)) le_blt))) rfl) le_bin))) le_or))
abbrev k_rising : Nat := 1
theorem sc_rising : FnScope N_rising ["things"] (defScope (top 17)) := fsQ
theorem d_rising (f_len : mg "len" = none) : Body P w K mg base N_rising "rising" (defScope (top 17)) 0 [] [1] (defBody (top 17)) (upS (B_rising)) := by
  have nd := sc_rising.nd
  intro f cdv A outer s H E hr
  have ⟨_, po, _⟩ := cxq (P := P) (w := w) (K := K) (mg := mg) (base := base) N_rising "rising" (defScope (top 17)) f cdv A outer s H E
  exact sC (loS (vs_setF (i := 1) (by decide) (by decide) nd rfl (by first | exact .inl rfl | exact .inr rfl) (loF (vf_lst aN) le_lst)) ls_setF) (sC (loS (vs_for po rfl (loIs (vi_seq (lv 0)) le_iter) (loG (gN 2 nd) (lg_nm)) ((show VSs _ _ _ _ _ _ (upS (b_rising_1)) from vss_one (loS (vs_insert (i := 1) (by decide) rfl (by first | exact .inl rfl | exact .inr (.inl rfl) | exact .inr (.inr rfl)) (aC (lo (ve_callB cd_len rfl f_len boot_len (aB (VE.b (VF.ve (loF (xf_lc rfl rfl nd (loI (vi_ownS (i := 1) rfl (by decide) rfl (by first | exact .inl rfl | exact .inr (.inl rfl) | exact .inr (.inr rfl))) le_own) (blkOk_by (own := [("one", 3)]) (N := N_rising) (sc := defScope (top 17)) (by decide +kernel)) (by decide) (by decide) (fun c => loG (gN 3 nd) (lg_nm)) (fun c => vts_one (tC (od_le (Room.u64 hr)) (lv 3) (lv 2))) (fun c => lv 3)) le_lc))) aN)) le_blt) (aC (lv 2) aN))) ls_ins)))) ls_for) (vss_one (loS (vs_retO (i := 1) (by decide) rfl (by first | exact .inl rfl | exact .inr (.inl rfl) | exact .inr (.inr rfl))) ls_retV)))
abbrev k_way_up : Nat := 1
theorem sc_way_up : FnScope N_way_up ["anchors", "name"] (defScope (top 22)) := fsQ
theorem d_way_up (c_CLOCK : ∃ t, mg "CLOCK" = some (.str "clock" t)) (hw : w = TabC.w) : Body P w K mg base N_way_up "way_up" (defScope (top 22)) 0 [] [2] (defBody (top 22)) (upS (B_way_up)) := by
  have nd := sc_way_up.nd
  intro f cdv A outer s H E hr
  have ⟨_, po, _⟩ := cxq (P := P) (w := w) (K := K) (mg := mg) (base := base) N_way_up "way_up" (defScope (top 22)) f cdv A outer s H E
  exact sC (loS (vs_setF (i := 2) (by decide) (by decide) nd rfl (by first | exact .inl rfl | exact .inr rfl) (loF (vf_lst aN) le_lst)) ls_setF) (sC (sS 3 nd (lo (ve_mget2 (Room.u9 hr) hw (VE.b (lv 0)) (lv 1) (lo (ve_gstr rfl c_CLOCK) le_c)) le_mget2)) (sC (loS (vs_while po (VW.t (loW (vw_and (tC (od_ne (Room.u64 hr)) (lv 3) (lo (ve_gstr rfl c_CLOCK) le_c)) (vw_and1 (loT (vt_cmp (od_notIn (Room.u65 hr)) (VE.b (lv 3)) (lo (vb_var (i := 2) (by decide) rfl (by first | exact .inl rfl | exact .inr (.inl rfl) | exact .inr (.inr rfl))) (le_var _)) rfl) le_binT))) le_andT)) ((show VSs _ _ _ _ _ _ (upS (b_way_up_1)) from sC (loS (vs_append (i := 2) (by decide) rfl (by first | exact .inl rfl | exact .inr (.inl rfl) | exact .inr (.inr rfl)) (lv 3)) ls_app) (vss_one (sS 3 nd (lo (ve_mget2 (Room.u9 hr) hw (VE.b (lv 0)) (lv 3) (lo (ve_gstr rfl c_CLOCK) le_c)) le_mget2)))))) ls_while) (vss_one (loS (vs_retO (i := 2) (by decide) rfl (by first | exact .inl rfl | exact .inr (.inl rfl) | exact .inr (.inr rfl))) ls_retV))))
abbrev k_round_from : Nat := 1
theorem sc_round_from : FnScope N_round_from ["anchors", "name"] (defScope (top 23)) := fsQ
theorem d_round_from (hw : w = TabC.w) : Body P w K mg base N_round_from "round_from" (defScope (top 23)) 0 [] [2] (defBody (top 23)) (upS (B_round_from)) := by
  have nd := sc_round_from.nd
  intro f cdv A outer s H E hr
  have ⟨_, po, _⟩ := cxq (P := P) (w := w) (K := K) (mg := mg) (base := base) N_round_from "round_from" (defScope (top 23)) f cdv A outer s H E
  exact sC (loS (vs_setF (i := 2) (by decide) (by decide) nd rfl (by first | exact .inl rfl | exact .inr rfl) (loF (vf_lst (aC (lv 1) aN)) le_lst)) ls_setF) (sC (loS (vs_while po (tC (od_ne (Room.u64 hr)) (lo (ve_subM (Room.u9 hr) hw (VE.b (lv 0)) (VE.b (lo (ve_sub (Room.u hr) (lo (vb_var (i := 2) (by decide) rfl (by first | exact .inl rfl | exact .inr (.inl rfl) | exact .inr (.inr rfl))) (le_var _)) (VE.b (lo (ve_neg (VE.b eI)) le_neg)) (fun _ _ => rfl)) le_bin)) (fun _ _ => rfl)) le_bin) (lv 1)) ((show VSs _ _ _ _ _ _ (upS (b_round_from_1)) from vss_one (loS (vs_append (i := 2) (by decide) rfl (by first | exact .inl rfl | exact .inr (.inl rfl) | exact .inr (.inr rfl)) (lo (ve_subM (Room.u9 hr) hw (VE.b (lv 0)) (VE.b (lo (ve_sub (Room.u hr) (lo (vb_var (i := 2) (by decide) rfl (by first | exact .inl rfl | exact .inr (.inl rfl) | exact .inr (.inr rfl))) (le_var _)) (VE.b (lo (ve_neg (VE.b eI)) le_neg)) (fun _ _ => rfl)) le_bin)) (fun _ _ => rfl)) le_bin)) ls_app)))) ls_while) (vss_one (loS (vs_retO (i := 2) (by decide) rfl (by first | exact .inl rfl | exact .inr (.inl rfl) | exact .inr (.inr rfl))) ls_retV)))
abbrev k_check_rounds : Nat := 3
theorem sc_check_rounds : FnScope N_check_rounds ["anchors"] (defScope (top 24)) := fsQ
theorem d_check_rounds (G_rising : GFn P w K mg base "rising" k_rising ["things"] (lift K 1 (FSp.of f_rising))) (G_round_from : GFn P w K mg base "round_from" k_round_from ["anchors", "name"] (lift K 2 (FSp.of f_round_from))) (G_way_up : GFn P w K mg base "way_up" k_way_up ["anchors", "name"] (lift K 2 (FSp.of f_way_up))) (X_Round : GEx P w K mg base "Round" 1 ["names"]) (f_list : mg "list" = none) (hw : w = TabC.w) : Body P w K mg base N_check_rounds "check_rounds" (defScope (top 24)) 2 [] [] (defBody (top 24)) (upS (B_check_rounds)) := by
  have nd := sc_check_rounds.nd
  intro f cdv A outer s H E hr
  have ⟨tk, po, _⟩ := cxq (P := P) (w := w) (K := K) (mg := mg) (base := base) N_check_rounds "check_rounds" (defScope (top 24)) f cdv A outer s H E
  exact vss_one (loS (vs_for po rfl (loIs (vi_seq (eG tk G_rising hr (aC (VF.ve (loF (vf_callTy (cf_listM hw rfl) rfl f_list boot_list (aB (VE.b (lv 0)) aN)) le_blt)) aN))) le_iter) (loG (gN 1 nd) (lg_nm)) ((show VSs _ _ _ _ _ _ (upS (b_check_rounds_1)) from vss_one (loS (vs_if (tC (od_in (Room.u65 hr)) (lv 1) (eG tk G_way_up hr (aC (lv 0) (aC (lv 1) aN)))) (vss_one (loS (vs_raise rfl tk X_Round hr (by decide) rfl (aC (eG tk G_round_from hr (aC (lv 0) (aC (lv 1) aN))) aN)) ls_raise)) (loSs vss_nil ls_nil)) ls_if)))) ls_for)
abbrev k_Hanging___init__ : Nat := 4
theorem sc_Hanging___init__ : FnScope N_Hanging___init__ ["self", "rows"] (defScope (mth 25 0)) := fsQ
theorem d_Hanging___init__ (G_check_rounds : GFn P w K mg base "check_rounds" k_check_rounds ["anchors"] (lift K 1 (FSp.of f_check_rounds))) (G_is_anchor : GFn P w K mg base "is_anchor" k_is_anchor ["thing", "names"] (lift K 2 (FSp.of f_is_anchor))) (G_is_name : GFn P w K mg base "is_name" k_is_name ["thing"] (lift K 1 (FSp.of f_is_name))) (G_rising : GFn P w K mg base "rising" k_rising ["things"] (lift K 1 (FSp.of f_rising))) (X_BadRow : GEx P w K mg base "BadRow" 1 ["name"]) (cl_Hanging : Cls K (He.ga K "Hanging")) (f_list : mg "list" = none) (hw : w = TabC.w) (na_Hanging_anchors : NoAttr K (He.ga K "Hanging") "anchors") : Body P w K mg base N_Hanging___init__ "Hanging.__init__" (defScope (mth 25 0)) 3 [0] [0] (defBody (mth 25 0)) (upS (B_Hanging___init__)) := by
  have nd := sc_Hanging___init__.nd
  intro f cdv A outer s H E hr
  have ⟨tk, po, uc⟩ := cxq (P := P) (w := w) (K := K) (mg := mg) (base := base) N_Hanging___init__ "Hanging.__init__" (defScope (mth 25 0)) f cdv A outer s H E
  exact sC (loS (vs_forM uc po rfl (vd_rowsX hw (pV 1)) (loG (vg_tup rfl (vgs_cons (gN 2 nd) (vgs_cons (gN 3 nd) (vgs_nil))) (fun _ _ _ h => ((gsok_cons gok_nm (gsok_cons gok_nm (gsok_nil))) _ _ _ h).1)) (lg_tp (lgs_cons (lg_nm) (lgs_cons (lg_nm) (lgs_nil))))) ((show VSs _ _ _ _ _ _ (upS (b_Hanging___init___1)) from vss_one (loS (vs_if (VW.t (loW (vw_or (loT (vt_not (loT (vt_val (eG tk G_is_name hr (aC (lv 2) aN))) le_val)) le_notT) (vw_or1 (loT (vt_not (loT (vt_val (eG tk G_is_anchor hr (aC (lv 3) (aC (lv 1) aN)))) le_val)) le_notT))) le_orT)) (vss_one (loS (vs_raise rfl tk X_BadRow hr (by decide) rfl (aC (lv 2) aN)) ls_raise)) (loSs vss_nil ls_nil)) ls_if)))) ls_forM) (sC (loS (vs_expr (eG tk G_check_rounds hr (aC (lv 1) aN))) ls_drop) (vss_one (loS (vs_fld (i := 0) (by decide) rfl (by first | exact .inl rfl | exact .inr (.inl rfl) | exact .inr (.inr rfl)) cl_Hanging na_Hanging_anchors (VF.ve (loF (xf_dc rfl rfl nd (VIs.vi (loIs (vi_seq (eG tk G_rising hr (aC (VF.ve (loF (vf_callTy (cf_listM hw rfl) rfl f_list boot_list (aB (VE.b (lv 1)) aN)) le_blt)) aN))) le_iter)) (blkOk_by (own := [("name", 2)]) (N := N_Hanging___init__) (sc := defScope (mth 25 0)) (by decide +kernel)) (by decide) (by decide) (fun c => loG (gN 2 nd) (lg_nm)) (fun c => loTs vts_nil le_yes) (fun c => lv 2) (fun c => lo (ve_subM (Room.u9 hr) hw (VE.b (lv 1)) (VE.b (lv 2)) (fun _ _ => rfl)) le_bin)) le_dc))) ls_fld)))
abbrev k__law_is_name : Nat := 1
theorem sc__law_is_name : FnScope N__law_is_name ["_law_thing"] (defScope (top 39)) := fsQ
theorem d__law_is_name (f_all : mg "all" = none) (f_isinstance : mg "isinstance" = none) (f_len : mg "len" = none) (f_str : mg "str" = none) : Body P w K mg base N__law_is_name "_law_is_name" (defScope (top 39)) 0 [] [] (defBody (top 39)) (upS (B__law_is_name)) := by
  have nd := sc__law_is_name.nd
  intro f cdv A outer s H E hr
  exact sC (sS 1 nd eS) (sC (loS (vs_if (VW.t (loW (vw_or (loT (vt_not (loT (vt_val (lo (ve_callB cd_isi rfl f_isinstance boot_isinstance (aB (VE.b (lv 0)) (aB (VE.b (lo (ve_bty (T := "str") rfl f_str boot_str) le_c)) aN))) le_blt)) le_val)) le_notT) (loW (vw_or (tC (od_eq (Room.u64 hr)) (lv 0) eS) (vw_or1 (loT (vt_not (loT (vt_chain (od_le (Room.u64 hr)) (od_le (Room.u64 hr)) (VE.b eI) (VE.b (lo (ve_callB cd_len rfl f_len boot_len (aB (VE.b (lv 0)) aN)) le_blt)) (VE.b eI)) le_chainT)) le_notT))) le_orT)) le_orT)) (vss_one (sR (lo (ve_bl) le_c))) (loSs vss_nil ls_nil)) ls_if) (vss_one (sR (lo (ve_callB (cd_all rfl) rfl f_all boot_all (aB (VE.b (VF.ve (loF (xf_lc rfl rfl nd (VIs.vi (loIs (vi_seq (lv 0)) le_iter)) (blkOk_by (own := [("_law_sign", 2)]) (N := N__law_is_name) (sc := defScope (top 39)) (by decide +kernel)) (by decide) (by decide) (fun c => loG (gN 2 nd) (lg_nm)) (fun c => loTs vts_nil le_yes) (fun c => lo (ve_cmp (od_in (Room.u65 hr)) (VE.b (lv 2)) (VE.b (lv 1)) rfl) le_bin)) le_lc))) aN)) le_blt))))
abbrev k__law_rising : Nat := 1
theorem sc__law_rising : FnScope N__law_rising ["_law_things"] (defScope (top 37)) := fsQ
theorem d__law_rising (f_len : mg "len" = none) (hw : w = TabC.w) : Body P w K mg base N__law_rising "_law_rising" (defScope (top 37)) 0 [] [1] (defBody (top 37)) (upS (B__law_rising)) := by
  have nd := sc__law_rising.nd
  intro f cdv A outer s H E hr
  have ⟨_, po, uc⟩ := cxq (P := P) (w := w) (K := K) (mg := mg) (base := base) N__law_rising "_law_rising" (defScope (top 37)) f cdv A outer s H E
  exact sC (loS (vs_setF (i := 1) (by decide) (by decide) nd rfl (by first | exact .inl rfl | exact .inr rfl) (loF (vf_lst aN) le_lst)) ls_setF) (sC (loS (vs_forM uc po rfl (vd_keysX hw (pV 0)) (loG (gN 2 nd) (lg_nm)) ((show VSs _ _ _ _ _ _ (upS (b__law_rising_1)) from vss_one (loS (vs_insert (i := 1) (by decide) rfl (by first | exact .inl rfl | exact .inr (.inl rfl) | exact .inr (.inr rfl)) (aC (lo (ve_callB cd_len rfl f_len boot_len (aB (VE.b (VF.ve (loF (xf_lc rfl rfl nd (loI (vi_ownS (i := 1) rfl (by decide) rfl (by first | exact .inl rfl | exact .inr (.inl rfl) | exact .inr (.inr rfl))) le_own) (blkOk_by (own := [("_law_x", 3)]) (N := N__law_rising) (sc := defScope (top 37)) (by decide +kernel)) (by decide) (by decide) (fun c => loG (gN 3 nd) (lg_nm)) (fun c => vts_one (tC (od_le (Room.u64 hr)) (lv 3) (lv 2))) (fun c => lv 3)) le_lc))) aN)) le_blt) (aC (lv 2) aN))) ls_ins)))) ls_forM) (vss_one (loS (vs_retO (i := 1) (by decide) rfl (by first | exact .inl rfl | exact .inr (.inl rfl) | exact .inr (.inr rfl))) ls_retV)))
abbrev k__law_due : Nat := 2
theorem sc__law_due : FnScope N__law_due ["_law_rows", "_law_bad"] (defScope (top 40)) := fsQ
theorem d__law_due (G__law_is_name : GFn P w K mg base "_law_is_name" k__law_is_name ["_law_thing"] (lift K 1 (FSp.of f__law_is_name))) (G__law_rising : GFn P w K mg base "_law_rising" k__law_rising ["_law_things"] (lift K 1 (FSp.of f__law_rising))) (f_isinstance : mg "isinstance" = none) (f_len : mg "len" = none) (f_str : mg "str" = none) (hw : w = TabC.w) : Body P w K mg base N__law_due "_law_due" (defScope (top 40)) 1 [] [] (defBody (top 40)) (upS (B__law_due)) := by
  have nd := sc__law_due.nd
  intro f cdv A outer s H E hr
  have ⟨tk, po, uc⟩ := cxq (P := P) (w := w) (K := K) (mg := mg) (base := base) N__law_due "_law_due" (defScope (top 40)) f cdv A outer s H E
  exact sC (loS (vs_forM uc po rfl (vd_keysX hw (pV 0)) (loG (gN 2 nd) (lg_nm)) ((show VSs _ _ _ _ _ _ (upS (b__law_due_1)) from sC (sS 3 nd (lo (ve_and (lo (ve_callB cd_isi rfl f_isinstance boot_isinstance (aB (VE.b (lo (ve_subM (Room.u9 hr) hw (VE.b (lv 0)) (VE.b (lv 2)) (fun _ _ => rfl)) le_bin)) (aB (VE.b (lo (ve_bty (T := "str") rfl f_str boot_str) le_c)) aN))) le_blt) (ve_one (lo (ve_or (lo (ve_cmp (od_eq (Room.u64 hr)) (VE.b (lo (ve_subM (Room.u9 hr) hw (VE.b (lv 0)) (VE.b (lv 2)) (fun _ _ => rfl)) le_bin)) (VE.b eS) (nomark _)) le_bin) (ve_one (lo (ve_cmp (od_inM (Room.u9 hr) hw) (VE.b (lo (ve_subM (Room.u9 hr) hw (VE.b (lv 0)) (VE.b (lv 2)) (fun _ _ => rfl)) le_bin)) (VE.b (lv 0)) rfl) le_bin))) le_or))) le_and)) (vss_one (loS (vs_if (VW.t (loW (vw_or (loT (vt_not (loT (vt_val (eG tk G__law_is_name hr (aC (lv 2) aN))) le_val)) le_notT) (loW (vw_or (loT (vt_not (loT (vt_val (lv 3)) le_val)) le_notT) (vw_or1 (tC (od_in (Room.u65 hr)) (lv 2) (lv 1)))) le_orT)) le_orT)) (vss_one (sR (lo (ve_tup (aC eS (aC (lv 2) aN))) le_tup))) (loSs vss_nil ls_nil)) ls_if))))) ls_forM) (sC (loS (vs_for po rfl (loIs (vi_seq (eG tk G__law_rising hr (aC (lv 0) aN))) le_iter) (loG (gN 2 nd) (lg_nm)) ((show VSs _ _ _ _ _ _ (upS (b__law_due_3)) from sC (loS (vs_par (i := 5) (j := 3) (by decide) (by decide) rfl nd rfl rfl (by decide) rfl rfl (VF.ve (loF (vf_lst (aC (lv 2) aN)) le_lst)) (lo (ve_subM (Room.u9 hr) hw (VE.b (lv 0)) (VE.b (lv 2)) (fun _ _ => rfl)) le_bin) rfl) ls_par) (sC (loS (vs_forM uc po rfl (vd_keysX hw (pV 0)) (loG (gN 4 nd) (lg_nm)) ((show VSs _ _ _ _ _ _ (upS (b__law_due_2)) from vss_one (loS (vs_if (VW.t (loW (vw_and (tC (od_ne (Room.u64 hr)) (lv 3) eS) (loW (vw_and (tC (od_ne (Room.u64 hr)) (lv 3) (lv 2)) (vw_and1 (tC (od_le (Room.u64 hr)) (lo (ve_callB cd_len rfl f_len boot_len (aB (VE.b (lv 5)) aN)) le_blt) (lo (ve_callB (cd_lenM hw) rfl f_len boot_len (aB (VE.b (lv 0)) aN)) le_blt)))) le_andT)) le_andT)) (vss_one (loS (vs_par (i := 5) (j := 3) (by decide) (by decide) rfl nd rfl rfl (by decide) rfl rfl (lo (ve_bin od_add (VE.b (lv 5)) (VE.b (VF.ve (loF (vf_lst (aC (lv 3) aN)) le_lst)))) le_bin) (lo (ve_subM (Room.u9 hr) hw (VE.b (lv 0)) (VE.b (lv 3)) (fun _ _ => rfl)) le_bin) rfl) ls_par)) (loSs vss_nil ls_nil)) ls_if)))) ls_forM) (vss_one (loS (vs_if (tC (od_eq (Room.u64 hr)) (lv 3) (lv 2)) (vss_one (sR (lo (ve_tup (aC eS (aC (lv 5) aN))) le_tup))) (loSs vss_nil ls_nil)) ls_if)))))) ls_for) (vss_one (sR (lo (ve_non) le_c))))
abbrev k__law_same : Nat := 7
theorem sc__law_same : FnScope N__law_same ["_law_found", "_law_due_here"] (defScope (top 35)) := fsQ
theorem d__law_same {kk : Nat} {sf : FFn} (hkk : 0 ≤ kk) (G_self : GFn P w K mg base "_law_same" kk ["_law_found", "_law_due_here"] (lift K 2 (FSp.of sf))) (f_all : mg "all" = none) (f_bool : mg "bool" = none) (f_int : mg "int" = none) (f_isinstance : mg "isinstance" = none) (f_len : mg "len" = none) (f_list : mg "list" = none) (f_tuple : mg "tuple" = none) (f_zip : mg "zip" = none) : Body P w K mg base N__law_same "_law_same" (defScope (top 35)) kk [] [] (defBody (top 35)) (upS (B__law_same sf)) := by
  have nd := sc__law_same.nd
  intro f cdv A outer s H E hr
  exact sC (loS (vs_if (loT (vt_val (lo (ve_callB cd_isi rfl f_isinstance boot_isinstance (aB (VE.b (lv 1)) (aB (VE.b (lo (ve_tup (aC (lo (ve_bty (T := "list") rfl f_list boot_list) le_c) (aC (lo (ve_bty (T := "tuple") rfl f_tuple boot_tuple) le_c) aN))) le_tup)) aN))) le_blt)) le_val) (sC (loS (vs_if (VW.t (loW (vw_or (tC (od_neX (Room.u66 hr)) (lo (ve_callB cd_isi rfl f_isinstance boot_isinstance (aB (VE.b (lv 0)) (aB (VE.b (lo (ve_bty (T := "list") rfl f_list boot_list) le_c)) aN))) le_blt) (lo (ve_callB cd_isi rfl f_isinstance boot_isinstance (aB (VE.b (lv 1)) (aB (VE.b (lo (ve_bty (T := "list") rfl f_list boot_list) le_c)) aN))) le_blt)) (vw_or1 (tC (od_neX (Room.u66 hr)) (lo (ve_callB cd_isi rfl f_isinstance boot_isinstance (aB (VE.b (lv 0)) (aB (VE.b (lo (ve_bty (T := "tuple") rfl f_tuple boot_tuple) le_c)) aN))) le_blt) (lo (ve_callB cd_isi rfl f_isinstance boot_isinstance (aB (VE.b (lv 1)) (aB (VE.b (lo (ve_bty (T := "tuple") rfl f_tuple boot_tuple) le_c)) aN))) le_blt)))) le_orT)) (vss_one (sR (lo (ve_bl) le_c))) (loSs vss_nil ls_nil)) ls_if) (vss_one (sR (lo (ve_and (lo (ve_cmp (od_eqX (Room.u66 hr)) (VE.b (lo (ve_callB cd_len rfl f_len boot_len (aB (VE.b (lv 0)) aN)) le_blt)) (VE.b (lo (ve_callB cd_len rfl f_len boot_len (aB (VE.b (lv 1)) aN)) le_blt)) (nomark _)) le_bin) (ve_one (lo (ve_callB (cd_all rfl) rfl f_all boot_all (aB (VE.b (VF.ve (loF (xf_lc rfl rfl nd (VIs.vi (loIs (vi_zip rfl f_zip (lv 0) (lv 1)) le_zip)) (blkOk_by (own := [("_law_x", 2), ("_law_y", 3)]) (N := N__law_same) (sc := defScope (top 35)) (by decide +kernel)) (by decide) (by decide) (fun c => loG (vg_tup rfl (vgs_cons (gN 2 nd) (vgs_cons (gN 3 nd) (vgs_nil))) (fun _ _ _ h => ((gsok_cons gok_nm (gsok_cons gok_nm (gsok_nil))) _ _ _ h).1)) (lg_tp (lgs_cons (lg_nm) (lgs_cons (lg_nm) (lgs_nil))))) (fun c => loTs vts_nil le_yes) (fun c => lo (ve_g tk_f rfl G_self hr (Nat.le_refl _) rfl (aC (lv 2) (aC (lv 3) aN))) le_call)) le_lc))) aN)) le_blt))) le_and)))) (loSs vss_nil ls_nil)) ls_if) (sC (loS (vs_if (loT (vt_val (lo (ve_callB cd_isi rfl f_isinstance boot_isinstance (aB (VE.b (lv 1)) (aB (VE.b (lo (ve_bty (T := "int") rfl f_int boot_int) le_c)) aN))) le_blt)) le_val) (vss_one (sR (lo (ve_and (lo (ve_callB cd_isi rfl f_isinstance boot_isinstance (aB (VE.b (lv 0)) (aB (VE.b (lo (ve_bty (T := "int") rfl f_int boot_int) le_c)) aN))) le_blt) (lo (ve_and (lo (ve_cmp (od_eqX (Room.u66 hr)) (VE.b (lo (ve_callB cd_isi rfl f_isinstance boot_isinstance (aB (VE.b (lv 0)) (aB (VE.b (lo (ve_bty (T := "bool") rfl f_bool boot_bool) le_c)) aN))) le_blt)) (VE.b (lo (ve_callB cd_isi rfl f_isinstance boot_isinstance (aB (VE.b (lv 1)) (aB (VE.b (lo (ve_bty (T := "bool") rfl f_bool boot_bool) le_c)) aN))) le_blt)) (nomark _)) le_bin) (ve_one (lo (ve_cmp (od_eqX (Room.u66 hr)) (VE.b (lv 0)) (VE.b (lv 1)) (nomark _)) le_bin))) le_and)) le_and))) (loSs vss_nil ls_nil)) ls_if) (vss_one (sR (lo (ve_and (lo (ve_cmp od_is (VE.b (lo (ve_callB cd_isi rfl f_isinstance boot_isinstance (aB (VE.b (lv 0)) (aB (VE.b (lo (ve_tup (aC (lo (ve_bty (T := "int") rfl f_int boot_int) le_c) (aC (lo (ve_bty (T := "list") rfl f_list boot_list) le_c) (aC (lo (ve_bty (T := "tuple") rfl f_tuple boot_tuple) le_c) aN)))) le_tup)) aN))) le_blt)) (VE.b (lo (ve_bl) le_c)) (nomark _)) le_bin) (ve_one (lo (ve_cmp (od_eqX (Room.u66 hr)) (VE.b (lv 0)) (VE.b (lv 1)) (nomark _)) le_bin))) le_and))))
abbrev k_is_list : Nat := 1
theorem sc_is_list : FnScope N_is_list ["thing"] (defScope (top 13)) := fsQ
theorem d_is_list (f_isinstance : mg "isinstance" = none) (f_list : mg "list" = none) (f_tuple : mg "tuple" = none) : Body P w K mg base N_is_list "is_list" (defScope (top 13)) 0 [] [] (defBody (top 13)) (upS (B_is_list)) := by
  have nd := sc_is_list.nd
  intro f cdv A outer s H E hr
  exact vss_one (sR (lo (ve_callB cd_isi rfl f_isinstance boot_isinstance (aB (VE.b (lv 0)) (aB (VE.b (lo (ve_tup (aC (lo (ve_bty (T := "list") rfl f_list boot_list) le_c) (aC (lo (ve_bty (T := "tuple") rfl f_tuple boot_tuple) le_c) aN))) le_tup)) aN))) le_blt))
abbrev k_is_integer : Nat := 1
theorem sc_is_integer : FnScope N_is_integer ["thing"] (defScope (top 14)) := fsQ
theorem d_is_integer (f_bool : mg "bool" = none) (f_int : mg "int" = none) (f_isinstance : mg "isinstance" = none) : Body P w K mg base N_is_integer "is_integer" (defScope (top 14)) 0 [] [] (defBody (top 14)) (upS (B_is_integer)) := by
  have nd := sc_is_integer.nd
  intro f cdv A outer s H E hr
  exact vss_one (sR (lo (ve_and (lo (ve_callB cd_isi rfl f_isinstance boot_isinstance (aB (VE.b (lv 0)) (aB (VE.b (lo (ve_bty (T := "int") rfl f_int boot_int) le_c)) aN))) le_blt) (ve_one (lo (ve_not (lo (ve_callB cd_isi rfl f_isinstance boot_isinstance (aB (VE.b (lv 0)) (aB (VE.b (lo (ve_bty (T := "bool") rfl f_bool boot_bool) le_c)) aN))) le_blt)) le_not))) le_and))
abbrev k_is_book_row : Nat := 2
theorem sc_is_book_row : FnScope N_is_book_row ["thing", "names"] (defScope (top 27)) := fsQ
theorem d_is_book_row (G_is_anchor : GFn P w K mg base "is_anchor" k_is_anchor ["thing", "names"] (lift K 2 (FSp.of f_is_anchor))) (G_is_integer : GFn P w K mg base "is_integer" k_is_integer ["thing"] (lift K 1 (FSp.of f_is_integer))) (G_is_list : GFn P w K mg base "is_list" k_is_list ["thing"] (lift K 1 (FSp.of f_is_list))) (f_len : mg "len" = none) : Body P w K mg base N_is_book_row "is_book_row" (defScope (top 27)) 1 [] [] (defBody (top 27)) (upS (B_is_book_row)) := by
  have nd := sc_is_book_row.nd
  intro f cdv A outer s H E hr
  have ⟨tk, _, _⟩ := cxq (P := P) (w := w) (K := K) (mg := mg) (base := base) N_is_book_row "is_book_row" (defScope (top 27)) f cdv A outer s H E
  exact sC (loS (vs_if (VW.t (loW (vw_or (loT (vt_not (loT (vt_val (eG tk G_is_list hr (aC (lv 0) aN))) le_val)) le_notT) (loW (vw_or (tC (od_ne (Room.u64 hr)) (lo (ve_callB cd_len rfl f_len boot_len (aB (VE.b (lv 0)) aN)) le_blt) eI) (vw_or1 (loT (vt_not (loT (vt_val (eG tk G_is_anchor hr (aC (eX hr (lv 0) eI) (aC (lv 1) aN)))) le_val)) le_notT))) le_orT)) le_orT)) (vss_one (sR (lo (ve_bl) le_c))) (loSs vss_nil ls_nil)) ls_if) (vss_one (sR (lo (ve_and (eG tk G_is_integer hr (aC (eX hr (lv 0) eI) aN)) (ve_one (lo (ve_cmp od_ge (VE.b (eX hr (lv 0) eI)) (VE.b eI) (nomark _)) le_bin))) le_and)))
abbrev k_Book___init__ : Nat := 4
theorem sc_Book___init__ : FnScope N_Book___init__ ["self", "rows"] (defScope (mth 29 0)) := fsQ
theorem d_Book___init__ (G_check_rounds : GFn P w K mg base "check_rounds" k_check_rounds ["anchors"] (lift K 1 (FSp.of f_check_rounds))) (G_is_book_row : GFn P w K mg base "is_book_row" k_is_book_row ["thing", "names"] (lift K 2 (FSp.of f_is_book_row))) (G_is_name : GFn P w K mg base "is_name" k_is_name ["thing"] (lift K 1 (FSp.of f_is_name))) (G_rising : GFn P w K mg base "rising" k_rising ["things"] (lift K 1 (FSp.of f_rising))) (X_BadRow : GEx P w K mg base "BadRow" 1 ["name"]) (cl_Book : Cls K (He.ga K "Book")) (f_list : mg "list" = none) (f_tuple : mg "tuple" = none) (hw : w = TabC.w) (na_Book_pairs : NoAttr K (He.ga K "Book") "pairs") : Body P w K mg base N_Book___init__ "Book.__init__" (defScope (mth 29 0)) 3 [0] [0] (defBody (mth 29 0)) (upS (B_Book___init__)) := by
  have nd := sc_Book___init__.nd
  intro f cdv A outer s H E hr
  have ⟨tk, po, uc⟩ := cxq (P := P) (w := w) (K := K) (mg := mg) (base := base) N_Book___init__ "Book.__init__" (defScope (mth 29 0)) f cdv A outer s H E
  exact sC (loS (vs_forM uc po rfl (vd_rowsX hw (pV 1)) (loG (vg_tup rfl (vgs_cons (gN 2 nd) (vgs_cons (gN 3 nd) (vgs_nil))) (fun _ _ _ h => ((gsok_cons gok_nm (gsok_cons gok_nm (gsok_nil))) _ _ _ h).1)) (lg_tp (lgs_cons (lg_nm) (lgs_cons (lg_nm) (lgs_nil))))) ((show VSs _ _ _ _ _ _ (upS (b_Book___init___1)) from vss_one (loS (vs_if (VW.t (loW (vw_or (loT (vt_not (loT (vt_val (eG tk G_is_name hr (aC (lv 2) aN))) le_val)) le_notT) (vw_or1 (loT (vt_not (loT (vt_val (eG tk G_is_book_row hr (aC (lv 3) (aC (lv 1) aN)))) le_val)) le_notT))) le_orT)) (vss_one (loS (vs_raise rfl tk X_BadRow hr (by decide) rfl (aC (lv 2) aN)) ls_raise)) (loSs vss_nil ls_nil)) ls_if)))) ls_forM) (sC (loS (vs_expr (eG tk G_check_rounds hr (aC (VF.ve (loF (vf_mix hw (loF (xf_dcM rfl rfl nd (vd_rowsX hw (pV 1)) (blkOk_by (own := [("name", 2), ("pair", 3)]) (N := N_Book___init__) (sc := defScope (mth 29 0)) (by decide +kernel)) (by decide) (by decide) (fun c => loG (vg_tup rfl (vgs_cons (gN 2 nd) (vgs_cons (gN 3 nd) (vgs_nil))) (fun _ _ _ h => ((gsok_cons gok_nm (gsok_cons gok_nm (gsok_nil))) _ _ _ h).1)) (lg_tp (lgs_cons (lg_nm) (lgs_cons (lg_nm) (lgs_nil))))) (fun c => loTs vts_nil le_yes) (fun c => lv 2) (fun c => eX hr (lv 3) eI)) le_dcM)) le_mix)) aN))) ls_drop) (vss_one (loS (vs_fld (i := 0) (by decide) rfl (by first | exact .inl rfl | exact .inr (.inl rfl) | exact .inr (.inr rfl)) cl_Book na_Book_pairs (VF.ve (loF (xf_dc rfl rfl nd (VIs.vi (loIs (vi_seq (eG tk G_rising hr (aC (VF.ve (loF (vf_callTy (cf_listM hw rfl) rfl f_list boot_list (aB (VE.b (lv 1)) aN)) le_blt)) aN))) le_iter)) (blkOk_by (own := [("name", 2)]) (N := N_Book___init__) (sc := defScope (mth 29 0)) (by decide +kernel)) (by decide) (by decide) (fun c => loG (gN 2 nd) (lg_nm)) (fun c => loTs vts_nil le_yes) (fun c => lv 2) (fun c => lo (ve_callTy cd_tuple rfl f_tuple boot_tuple (aB (VE.b (lo (ve_subM (Room.u9 hr) hw (VE.b (lv 1)) (VE.b (lv 2)) (fun _ _ => rfl)) le_bin)) aN)) le_blt)) le_dc))) ls_fld)))
abbrev k_law : Nat := 8
theorem sc_law : FnScope N_law ["_law_script"] (defScope (top 42)) := fsQ
theorem d_law {c0 P0 : Addr} (TB0 : LamX.TabB base mg c0 P0) (hT0 : (P0, ((envOfC "law" (defScope (top 42)) 0 0 .none).qual ++ "<lambda>")) ∈ TabC.T) (hU0 : ∀ p ∈ TabC.T, p.1 = P0 → p.2 = ((envOfC "law" (defScope (top 42)) 0 0 .none).qual ++ "<lambda>")) (G__law_due : GFn P w K mg base "_law_due" k__law_due ["_law_rows", "_law_bad"] (lift K 2 (FSp.of f__law_due))) (G__law_hungF : GFn P w K mg base "_law_hung" k__law_hungF ["_law_state", "_law_names_here"] (liftF K 2 sp__law_hungF)) (G__law_names : GFn P w K mg base "_law_names" k__law_names ["_law_state", "_law_many"] (lift K 2 sp__law_names)) (G__law_one : GFn P w K mg base "_law_one" k__law_one ["_law_state", "_law_things"] (lift K 2 sp__law_one)) (G__law_same : GFn P w K mg base "_law_same" k__law_same ["_law_found", "_law_due_here"] (lift K 2 (FSp.of f__law_same))) (G__law_take : GFn P w K mg base "_law_take" k__law_take ["_law_state", "_law_many"] (lift K 2 sp__law_take)) (K_Book_1 : GMk P w K mg base "Book" "Book" k_Book___init__ ["self", "rows"] [] (FSp.of f_Book___init__)) (K_Hanging_1 : GMk P w K mg base "Hanging" "Hanging" k_Hanging___init__ ["self", "rows"] [] (FSp.of f_Hanging___init__)) (U__law_tried : GTr P w K mg base "_law_tried" .drop [("BadRow", some 2, .fld "row" "name"), ("Round", some 2, .lst "round" "names")]) (f_dict : mg "dict" = none) (f_isinstance : mg "isinstance" = none) (f_list : mg "list" = none) (f_range : mg "range" = none) (f_str : mg "str" = none) (hw : w = TabC.w) : BodyL P w K mg base N_law "law" (defScope (top 42)) 7 [] [] (defBody (top 42)).tail (B_law) c0 := by
  have nd := sc_law.nd
  intro f A outer s H E hr
  have tk := cx_tk (P := P) (w := w) (K := K) (mg := mg) (base := base) (N := N_law) (qual := "law") (scope := defScope (top 42)) (f := f) (cdv := .ref c0) (A := A) (outer := outer) (s := s) (H := H) (E := E)
  have po := cx_po (P := P) (w := w) (K := K) (mg := mg) (base := base) (N := N_law) (qual := "law") (scope := defScope (top 42)) (f := f) (cdv := .ref c0) (A := A) (outer := outer) (s := s) (H := H) (E := E)
  have uc := cx_uc (P := P) (w := w) (K := K) (mg := mg) (base := base) (N := N_law) (qual := "law") (scope := defScope (top 42)) (f := f) (cdv := .ref c0) (A := A) (outer := outer) (s := s) (H := H) (E := E)
  exact vss_cons (vs_for po rfl (loIs (vi_range1 rfl f_range (VE.b eI)) le_range1) (loG (gN 2 nd) (lg_nm)) (VSs.weak (O' := [11]) (vss_cons (vs_set (i := 3) (by decide) nd rfl (by first | exact .inl rfl | exact .inr rfl) (ve_g tk rfl G__law_names hr (by decide) rfl (va_cons stbE (lv 1) (va_cons stbE (ve_bin od_add (VE.b eI) (VE.b (ve_g tk rfl G__law_take hr (by decide) rfl (aC (lv 1) (aC eI aN))))) aN)))) (vss_cons (vs_par3Hc (i := 9) (j := 10) (l := 11) (by decide) (by decide) (by decide) (by decide) (by decide) rfl nd rfl rfl rfl (by decide) (by decide) (by decide) (by first | exact .inl rfl | exact .inr rfl) (by first | exact .inl rfl | exact .inr rfl) (by first | exact .inl rfl | exact .inr rfl) (vf_g tk rfl G__law_hungF hr (by decide) rfl (aC (lv 1) (aC (lv 3) aN))) (VF.ve (loF (vf_lst aN) le_lst)) (loF (vf_mix hw (loF vf_dic0 le_c)) le_mix)) (vss_cons (vs_for po rfl (vi_range1 rfl f_range (VE.b (ve_g tk rfl G__law_take hr (by decide) rfl (aC (lv 1) (aC eI aN))))) (loG (gN 4 nd) (lg_nm)) (vss_cons (vs_set (i := 6) (by decide) nd rfl (by first | exact .inl rfl | exact .inr rfl) (ve_g tk rfl G__law_one hr (by decide) rfl (aC (lv 1) (aC (lv 3) aN)))) (vss_cons (sS 8 nd (VF.ve (loF (vf_lst (aC eS (aC eS (aC (lo (ve_non) le_c) (aC eI (aC (VF.ve (loF (vf_lst aN) le_lst)) (aC (lo (ve_tup (aC eS (aC eI aN))) le_tup) (aC (lo (ve_bl) le_c) (aC eS aN))))))))) le_lst))) (vss_one (vs_dput (i := 9) (Room.u hr) (by decide) rfl (by first | exact .inl rfl | exact .inr (.inl rfl) | exact .inr (.inr rfl)) (lv 6) (ve_g tk rfl G__law_one hr (by decide) rfl (va_cons stbE (lv 1) (va_cons stbE (ve_bin od_add (VE.b (lo (ve_bin od_add (VE.b (lv 3)) (VE.b (lv 3))) le_bin)) (VE.b (VF.ve (vf_lst (va_cons stbE (ve_g tk rfl G__law_one hr (by decide) rfl (aC (lv 1) (aC (lv 8) aN))) aN))))) aN)))))))) (vss_cons (vs_set (i := 5) (by decide) nd rfl (by first | exact .inl rfl | exact .inr rfl) (ve_g tk rfl G__law_one hr (by decide) rfl (aC (lv 1) (aC (VF.ve (loF (vf_lst (aC eS (aC eS (aC eS (aC eI (aC (lo (ve_non) le_c) (aC (lo (ve_tup (aC eS aN)) le_tup) aN))))))) le_lst)) aN)))) (vss_cons (vs_toM (i := 9) hw (by decide) (vs_if (VW.t (vw_and (vt_cmp (od_eq (Room.u64 hr)) (VE.b (ve_g tk rfl G__law_take hr (by decide) rfl (aC (lv 1) (aC eI aN)))) (VE.b eI) (nomark _)) (vw_and1 (VW.t (loW (vw_or (loT (vt_val (lo (ve_callB cd_isi rfl f_isinstance boot_isinstance (aB (VE.b (lv 5)) (aB (VE.b (lo (ve_bty (T := "str") rfl f_str boot_str) le_c)) aN))) le_blt)) le_val) (vw_or1 (tC (od_notIn (Room.u65 hr)) (lv 5) (lo (ve_listValsO (i := 9) rfl rfl f_list (by decide) rfl (by first | exact .inl rfl | exact .inr (.inl rfl) | exact .inr (.inr rfl))) le_listValsO)))) le_orT))))) (vss_one (VS.rel (O := [11]) (loS (vs_setF (i := 9) (by decide) (by decide) nd rfl (by first | exact .inl rfl | exact .inr rfl) (loF (vf_callTy (cf_dictM (Room.u64 hr) hw rfl) rfl f_dict boot_dict (aB (VE.b (lo (ve_bin od_add (VE.b (lo (ve_listRows rfl rfl f_list (lv 9)) le_listRows)) (VE.b (VF.ve (loF (vf_lst (aC (lo (ve_tup (aC (lv 5) (aC eS aN))) le_tup) aN)) le_lst)))) le_bin)) aN)) le_blt)) ls_setF) (by decide))) (VSs.weak (O' := [11, 9]) (loSs vss_nil ls_nil) (by decide)))) (vss_cons (VS.rel (O := [11]) (loS (vs_if (loT (vt_not (loT (vt_val (eG tk G__law_same hr (aC (lo (ve_tried U__law_tried rfl TB0 rfl hT0 hU0 hr (k := 5) (by decide) (LamX.lamS_by (sc := defScope (top 42)) (by decide +kernel)) rfl (by intros; rfl) (fun A outer s H E f c' hr => have tk := lam_tk (A := A) (outer := outer) (s := s) (H := H) (E := E) (f := f) (c' := c'); VF.ve (loF (vf_mk tk rfl K_Hanging_1 hr (by decide) rfl (aC (lv 9) aN)) le_make))) le_tried) (aC (eG tk G__law_due hr (aC (lv 9) (aC (VF.ve (loF (vf_lst aN) le_lst)) aN))) aN)))) le_val)) le_notT) (vss_one (sR (lo (ve_bl) le_c))) (loSs vss_nil ls_nil)) ls_if) (by decide)) (vss_cons (vs_forM uc po rfl (vd_keysX hw (pV 9)) (loG (gN 6 nd) (lg_nm)) (vss_cons (vs_mput (i := 11) (Room.u9 hr) hw (by decide) rfl (by first | exact .inl rfl | exact .inr (.inl rfl) | exact .inr (.inr rfl)) (lv 6) (ve_g tk rfl G__law_take hr (by decide) rfl (aC (lv 1) (aC eI aN)))) (vss_one (vs_if (vt_cmp (od_eq (Room.u64 hr)) (VE.b (ve_g tk rfl G__law_take hr (by decide) rfl (aC (lv 1) (aC eI aN)))) (VE.b eI) (nomark _)) (vss_one (vs_mputN (i := 11) (j := 10) (Room.u9 hr) hw (by decide) (by decide) (by decide) rfl nd rfl rfl (by first | exact .inl rfl | exact .inr (.inl rfl) | exact .inr (.inr rfl)) (by first | exact .inl rfl | exact .inr rfl) (lv 6) (lo (ve_bin od_add (VE.b (lv 10)) (VE.b (VF.ve (loF (vf_lst (aC (lv 6) aN)) le_lst)))) le_bin) (ve_g tk rfl G__law_one hr (by decide) rfl (aC (lv 1) (aC (VF.ve (loF (vf_lst (aC (lo (ve_neg (VE.b eI)) le_neg) (aC (lo (ve_non) le_c) (aC eS (aC (lo (ve_bl) le_c) (aC (VF.ve (loF (vf_lst aN) le_lst)) (aC (lo (ve_neg (VE.b eI)) le_neg) aN))))))) le_lst)) aN))))) (loSs vss_nil ls_nil))))) (vss_cons (loS (vs_setF (i := 7) (by decide) (by decide) nd rfl (by first | exact .inl rfl | exact .inr rfl) (loF (vf_callTy (cf_dictM (Room.u64 hr) hw rfl) rfl f_dict boot_dict (aB (VE.b (VF.ve (loF (xf_lcM rfl rfl nd (vd_keysX hw (pV 9)) (blkOk_by (own := [("_law_name", 6)]) (N := N_law) (sc := defScope (top 42)) (by decide +kernel)) (by decide) (by decide) (fun c => loG (gN 6 nd) (lg_nm)) (fun c => loTs vts_nil le_yes) (fun c => lo (ve_tup (aC (lv 6) (aC (lo (ve_tup (aC (lo (ve_subM (Room.u9 hr) hw (VE.b (lv 9)) (VE.b (lv 6)) (fun _ _ => rfl)) le_bin) (aC (lo (ve_subM (Room.u9 hr) hw (lo (vb_var (i := 11) (by decide) rfl (by first | exact .inl rfl | exact .inr (.inl rfl) | exact .inr (.inr rfl))) (le_var _)) (VE.b (lv 6)) (fun _ _ => rfl)) le_bin) aN))) le_tup) aN))) le_tup)) le_lcM))) aN)) le_blt)) ls_setF) (vss_cons (VS.rel (O := [11]) (loS (vs_if (loT (vt_not (loT (vt_val (eG tk G__law_same hr (aC (lo (ve_tried U__law_tried rfl TB0 rfl hT0 hU0 hr (k := 5) (by decide) (LamX.lamS_by (sc := defScope (top 42)) (by decide +kernel)) rfl (by intros; rfl) (fun A outer s H E f c' hr => have tk := lam_tk (A := A) (outer := outer) (s := s) (H := H) (E := E) (f := f) (c' := c'); VF.ve (loF (vf_mk tk rfl K_Book_1 hr (by decide) rfl (aC (lv 7) aN)) le_make))) le_tried) (aC (eG tk G__law_due hr (aC (lv 9) (aC (lv 10) aN))) aN)))) le_val)) le_notT) (vss_one (sR (lo (ve_bl) le_c))) (loSs vss_nil ls_nil)) ls_if) (by decide)) (vss_cons (vs_set (i := 6) (by decide) nd rfl (by first | exact .inl rfl | exact .inr rfl) (ve_g tk rfl G__law_one hr (by decide) rfl (aC (lv 1) (aC (lv 3) aN)))) (vss_cons (vs_set (i := 8) (by decide) nd rfl (by first | exact .inl rfl | exact .inr rfl) (ve_g tk rfl G__law_one hr (by decide) rfl (aC (lv 1) (aC (VF.ve (loF (vf_lst (aC (lo (ve_non) le_c) (aC eI (aC eS (aC (lo (ve_tup (aC eS aN)) le_tup) (aC (lo (ve_tup (aC eS (aC eI (aC eI aN)))) le_tup) (aC (VF.ve (loF (vf_lst aN) le_lst)) (aC (VF.ve (loF vf_dic0 le_c)) (aC (VF.ve (loF (vf_lst (aC (VF.ve (loF (vf_lst (aC eS (aC eI aN))) le_lst)) aN)) le_lst)) aN))))))))) le_lst)) aN)))) (sC (loS (vs_setF (i := 7) (by decide) (by decide) nd rfl (by first | exact .inl rfl | exact .inr rfl) (loF (vf_callTy (cf_dictM (Room.u64 hr) hw rfl) rfl f_dict boot_dict (aB (VE.b (VF.ve (loF (xf_lc rfl rfl nd (VIs.vi (loIs (vi_seq (lv 3)) le_iter)) (blkOk_by (own := [("_law_x", 12)]) (N := N_law) (sc := defScope (top 42)) (by decide +kernel)) (by decide) (by decide) (fun c => loG (gN 12 nd) (lg_nm)) (fun c => loTs vts_nil le_yes) (fun c => lo (ve_tup (aC (lv 12) (aC (lo (ve_tup (aC eS (aC eI aN))) le_tup) aN))) le_tup)) le_lc))) aN)) le_blt)) ls_setF) (sC (loS (vs_mput (i := 7) (Room.u9 hr) hw (by decide) rfl (by first | exact .inl rfl | exact .inr (.inl rfl) | exact .inr (.inr rfl)) (lv 6) (lv 8)) ls_mput) (vss_one (VS.rel (O := [11]) (loS (vs_if (loT (vt_not (loT (vt_val (eG tk G__law_same hr (aC (lo (ve_tried U__law_tried rfl TB0 rfl hT0 hU0 hr (k := 5) (by decide) (LamX.lamS_by (sc := defScope (top 42)) (by decide +kernel)) rfl (by intros; rfl) (fun A outer s H E f c' hr => have tk := lam_tk (A := A) (outer := outer) (s := s) (H := H) (E := E) (f := f) (c' := c'); VF.ve (loF (vf_mk tk rfl K_Book_1 hr (by decide) rfl (aC (lv 7) aN)) le_make))) le_tried) (aC (lo (ve_tup (aC eS (aC (lv 6) aN))) le_tup) aN)))) le_val)) le_notT) (vss_one (sR (lo (ve_bl) le_c))) (loSs vss_nil ls_nil)) ls_if) (by decide)))))))))))))))) (by decide))) (vss_one (sR (lo (ve_bl) le_c)))
end DL.K07
namespace DL
open PySem PySem.Spec PyProof.Rows L2
variable [TabC]
end DL
namespace DL
open PySem PySem.Spec PyProof.Rows L2
variable [TabC]
/-! the same thing, with lists and tuples as drawn -/
mutual
/-- so deep at most; no list too long; what may be asked whether it is a list -/
def lay : Nat → D → Prop
  | 0, _ => False
  | k + 1, .tup ds => ds.length ≤ 1000 ∧ layL k ds
  | k + 1, .lst ds => ds.length ≤ 1000 ∧ layL k ds
  | _ + 1, .str _ => True
  | _ + 1, .int _ => True
  | _ + 1, .non => True
  | _ + 1, .bl _ => True
  | _ + 1, .dic _ => True
  | _ + 1, _ => False
def layL : Nat → List D → Prop
  | _, [] => True
  | k, d :: ds => lay k d ∧ layL k ds
end
end DL
namespace DL
open PySem PySem.Spec PyProof.Rows L2
variable [TabC]
end DL
namespace DL
open PySem PySem.Spec PyProof.Rows L2
variable [TabC]
end DL
namespace DL
open PySem PySem.Spec PyProof.Rows L2
variable [TabC]
/-! ### isinstance(x, C), x an object of the own class C -/
section
variable {X : Cx} {E : XK} {O : List Nat} {e : Expr} {m : EM D} {pos : Pos}
end
end DL
namespace DL
open PySem PySem.Spec PyProof.Rows L2
variable [TabC]
section
variable {X : Cx} {E : XK} {O OL : List Nat} {pos : Pos} {i j : Nat} {x y : Str}
end
end DL
namespace DL
open PySem PySem.Spec PyProof.Rows L2
variable [TabC]
end DL
/-! a run that wakes no sleeping generator leaves them as they are, whatever they hold -/
namespace DL.GF
open PySem PySem.Spec PyProof.Rows GenW
open Sem (wp)
/-- what a sleeper's place holds in its stead, and the sleeper -/
abbrev Hold := Nat → Option (GenState × GenState)
section
variable {P : Hold} {G : Array GenState} {g : Nat} {x : GenState}
end
end DL.GF
namespace DL.GF
open PySem PySem.Spec PyProof.Rows GenW
open Sem (wp)
end DL.GF
/-! stretches of a generator's run: what is wanted of their end may hang on what is to go on behind it -/
namespace DL.GF
open PySem PySem.Spec PyProof.Rows GenW
open Sem (wp)
abbrev EndP := End → Shared → Prop
section
variable {M : Model} {B : Around} {c c' : Code} {fs : List Frame} {s : Shared} {Φ Ψ : EndP} {env : Env} {K : Flow → Sem PySem.Fin} {J : Value → Sem PySem.Fin} {gd : Bool → Bool} {lv : List Value → List Value}
/-! ### statements -/
end
section
variable {P : Program} {w : World} {B : Around} {fs : List Frame} {s : Shared} {Φ : EndP} {env : Env}
end
end DL.GF
/-! a generator is woken -/
namespace DL.GF
open PySem PySem.Spec PyProof.Rows GenW L2
open Sem (wp)
end DL.GF
/-! a generator's frame while it sleeps: its own objects are tracked as they stand -/
namespace DL.GF
open PySem PySem.Spec PyProof.Rows GenW L2
/-! ### the heap up to a place -/
section
variable {L b : Addr} {h h' : Heap} {o : Obj}
end
/-! ### the frame -/
structure GG where
  P : Program
  w : World
  K : PySem.W.Frag
  mg : Str → Option Value
  base : Heap
  N : List Str
  env : Env
  outer : List Env
  k : Nat
section
variable {G : GG} {B B' : Around} {s z : Shared} {H H0 H' Hg : Hp} {ip : List (Addr × Obj)} {σ : L2.St}
end
end DL.GF
/-! generators over data -/
namespace DL.GF
open PySem PySem.Spec PyProof.Rows GenW L2
variable [TabC]
/-- when it wakes: the around, the state, what is tracked, what it must not meet, its own tracked things, the draws; where its own stretch begins -/
structure WD where
  B : Around
  s : Shared
  H : Hp
  A : AS
  Pr : AS
  n : Nat
/-- the generator: its frame, the state of the draws, its object and number -/
structure GT extends GG where
  aS : Addr
  a : Addr
  g : Nat
  go : Obj
section
variable {g : Nat} {aS : Addr} {q q1 q2 : WD} {O O1 O2 : List Nat} {σ σ1 σ2 : L2.St} {H H1 H2 : Hp} {z z1 z2 : Shared}
end
section
variable {G : GT} {q : WD} {H0 : Hp} {ip : List (Addr × Obj)} {Px : AS} {O O' OL : List Nat} {σ σ' : L2.St} {H H' : Hp} {z z' : Shared} {sv sv' : Ev}
end
/-! ### statements of a generator -/
structure GDE where
  nx : List D → Ev → Prop
  bk : List D → Ev → Prop := fun _ _ => False
  ct : List D → Ev → Prop := fun _ _ => False
abbrev GM := GDE → List D → Ev → Prop
section
variable {G : GT} {O O1 O' OL : List Nat} {st : Stmt} {rest a b : List Stmt} {m r : GM} {ms : SM}
end
end DL.GF
namespace DL.GF
open PySem PySem.Spec PyProof.Rows GenW L2
variable [TabC]
section
variable {G : GT} {q : WD} {H0 : Hp} {ip : List (Addr × Obj)} {Px : AS} {O O' OL : List Nat} {σ σ' : L2.St} {H H' : Hp} {z z' : Shared} {sv sv' : Ev} {e : Expr} {m : EM D} {mt : EM Bool}
end
section
variable {G : GT} {O O1 O' OL : List Nat} {st : Stmt} {rest a b : List Stmt} {m r ma mb : GM} {ms : SM} {c : Expr} {mt : EM Bool} {pos : Pos}
end
end DL.GF
namespace DL.GF
open PySem PySem.Spec PyProof.Rows GenW L2
variable [TabC]
section
variable {K : PySem.W.Frag} {aS : Addr} {H H' : Hp} {A A' : AS} {O : List Nat} {σ : L2.St} {sv : Ev} {n n' : Nat} {B B' Px : AS}
end
section
variable {G : GT} {q q' : WD} {H0 : Hp} {ip : List (Addr × Obj)} {Px : AS} {O O' OL : List Nat} {σ σ' : L2.St} {H H' : Hp} {z z' : Shared} {sv sv' : Ev}
end
section
variable {G : GT} {O O' OL : List Nat} {e : Expr} {m : EM D} {yp pos : Pos}
end
end DL.GF
/-! those who ask a generator for the next thing -/
namespace DL.GF
open PySem PySem.Spec PyProof.Rows GenW L2
variable [TabC]
section
variable {K : PySem.W.Frag} {aS : Addr} {H H' : Hp} {O : List Nat} {σ : L2.St} {sv : Ev} {n n' g : Nat} {A0 A1 Pr Pr' : AS} {z0 : Option Addr} {s z : Shared} {d : D} {x : V}
end
end DL.GF
namespace DL
open PySem PySem.Spec PyProof.Rows L2
variable [TabC]
/-! ### a thing that is kept aside, told by a handle: its addresses (S), what stands there (C) -/
structure Hid where
  S : Type
  C : Type
  own : S → Addr → Prop
  hd : S → V
  at_ : PySem.W.Frag → Addr → Hp → AS → S → C → Prop
  vw : C → D
  no : D → Bool
  dom : ∀ {K aS H A st c b}, at_ K aS H A st c → own st b → ∃ u, H b = some u ∧ (∀ ps, u ≠ .tbl ps) ∧ ∀ xs, u ≠ .tup xs
  mono : ∀ {K aS H H' A A' st c}, Sub K H H' A A' → (∀ b u, own st b → H b = some u → H' b = some u) → at_ K aS H A st c → at_ K aS H' A' st c
  rep : ∀ {K aS H A A' st c}, at_ K aS H A st c → (∀ b, A' b → A b ∧ ¬ own st b) → Rep K aS H A' (vw c) (hd st)
  far : ∀ {K aS H A A' st c d v}, at_ K aS H A st c → (∀ b, A b → A' b ∨ own st b) → no d = true → Rep K aS H A' d v → Rep K aS H A d v
structure DEV (Z : Hid) where
  nx : Z.C → Ev → Nat → Prop
  rt : D → Z.C → Nat → Prop
  bk : Z.C → Ev → Nat → Prop := fun _ _ _ => False
  ct : Z.C → Ev → Nat → Prop := fun _ _ _ => False
abbrev EMV (Z : Hid) (α : Type) := Z.S → (Z.C → XQ) → Z.C → Ev → Nat → (α → Z.C → Nat → Prop) → Prop
abbrev SMV (Z : Hid) := Z.S → (Z.C → XQ) → DEV Z → Z.C → Ev → Nat → Prop
section
variable {Z : Hid} {K : PySem.W.Frag} {E : XK} {aS : Addr} {H H' H0 : Hp} {A : AS} {A0 : A0T} {O O' : List Nat} {σ : L2.St} {s : Ev} {n n' : Nat} {st : Z.S} {c c' : Z.C} {xq : Z.C → XQ}
end
/-! ### what knows nothing of the thing -/
section
variable {Z : Hid} {X : Cx} {E : XK} {O O' O'' OL : List Nat} {e : Expr} {es : List Expr} {st : Stmt} {rest : List Stmt} {m : EM D} {ml : EM (List D)} {mt : EM Bool} {ms : SM}
end
end DL
namespace DL
open PySem PySem.Spec PyProof.Rows L2
variable [TabC]
/-! ### a look at the thing: the handle's slot shows it -/
section
variable {Z : Hid} {K : PySem.W.Frag} {E : XK} {aS : Addr} {H H' H0 : Hp} {A A' : AS} {A0 : A0T} {O O' : List Nat} {σ : L2.St} {s : Ev} {n n' j : Nat} {st : Z.S} {c c' : Z.C} {xq : Z.C → XQ}
/-- what is raised while it is looked at -/
def gx (Z : Hid) (xq : XQ) : XQ := fun x n => (x.2.all fun p => Z.no p.2) = true ∧ xq x n
end
section
variable {Z : Hid} {X : Cx} {E : XK} {O O' O'' OL : List Nat} {e a b : Expr} {es : List Expr} {st : Stmt} {rest : List Stmt} {m : EM D} {ml : EM (List D)} {mt : EM Bool} {j : Nat} {pos : Pos}
/-! ### statements -/
variable {ms mr ma mb : SMV Z} {me : EMV Z D} {mc : EMV Z Bool} {mls : EMV Z (List D)} {i : Nat}
/-! ### a new thing that a slot owns -/
end
end DL
namespace DL
open PySem PySem.Spec PyProof.Rows L2
variable [TabC]
/-! ### expressions that may change the thing -/
section
variable {Z : Hid} {K : PySem.W.Frag} {aS : Addr} {H H' H1 H2 : Hp} {A : AS} {d : D} {ds : List D} {v : V} {vs : List V}
end
section
variable {Z : Hid} {X : Cx} {E : XK} {O O' O'' OL : List Nat} {e a b : Expr} {es rest : List Expr} {me mb : EMV Z D} {ml : EMV Z (List D)} {mt tA tB : EMV Z Bool} {pos p : Pos}
end
end DL
namespace DL
open PySem PySem.Spec PyProof.Rows L2
variable [TabC]
/-! ### defs that may change the thing -/
structure FSpV (Z : Hid) where
  run : Z.S → Z.C → List D → Nat → (D → Z.C → Nat → Prop) → (Z.C → XQ) → Prop
  mn : ∀ st c ds n Q Q' xq, (∀ d c' n', Q d c' n' → Q' d c' n') → run st c ds n Q xq → run st c ds n Q' xq
section
variable {Z : Hid} {K : PySem.W.Frag} {E : XK} {aS : Addr} {H H' H0 : Hp} {A : AS} {A0 : A0T} {O O' : List Nat} {σ : L2.St} {s : Ev} {n n' len : Nat} {st : Z.S} {c c' : Z.C} {xq : Z.C → XQ}
end
section
variable {Z : Hid} {X : Cx} {E : XK} {O O' O'' OL : List Nat} {e a b : Expr} {es rest : List Expr} {me mb : EMV Z D} {ml : EMV Z (List D)} {pos p : Pos} {k k' : Nat} {ps : List Str} {sp : FSpV Z}
end
section
variable {Z : Hid} {P : Program} {w : World} {K : PySem.W.Frag} {mg : Str → Option Value} {base : Heap} {x qual : Str} {params : Arguments} {body : List Stmt} {scope : Scope} {dvs : List V} {kws : List (Str × V)} {f : Addr} {fd : FuncData}
end
end DL
namespace DL
open PySem PySem.Spec PyProof.Rows L2
variable [TabC]
/-! ### an evening: an instance with what stands here and the list of what stood earlier -/
mutual
/-- nothing in it is an evening or a list -/
def noEv : D → Bool
  | .lst _ => false
  | .tup ds => noEvL ds
  | .dic kvs => noEvK kvs
  | .dmx kvs => noEvP kvs
  | .obj _ fs => (fs.lookup ("earlier" : Str)).isNone && noEvF fs
  | .exc _ fs => noEvF fs
  | _ => true
def noEvL : List D → Bool
  | [] => true
  | d :: ds => noEv d && noEvL ds
def noEvK : List (Key × D) → Bool
  | [] => true
  | (_, d) :: ds => noEv d && noEvK ds
def noEvF : List (Str × D) → Bool
  | [] => true
  | (_, d) :: ds => noEv d && noEvF ds
def noEvP : List (D × D) → Bool
  | [] => true
  | (k, d) :: ds => noEv k && noEv d && noEvP ds
end
section
variable {K : PySem.W.Frag} {aS : Addr} {H : Hp} {A A' : AS}
mutual
theorem Rep.farE (h1 : ∀ b ys, A b → Rd H b (.dK ys) → A' b) (h2 : ∀ b m ys, A b → Rd H b (MD.MixO TabC.w m ys) → A' b) (h3 : ∀ b C dx (ys : List (Str × V)), A b → H b = some (.ins C dx ys) → ys.lookup ("earlier" : Str) = none → A' b) (h4 : ∀ b u, A b → XO u → H b = some u → A' b) : ∀ (d : D) (v : V), noEv d = true → Rep K aS H A' d v → Rep K aS H A d v
  | .non, v, _, h => by rw [Rep] at h ⊢; exact h
  | .bl b, v, _, h => by rw [Rep] at h ⊢; exact h
  | .int i, v, _, h => by rw [Rep] at h ⊢; exact h
  | .str x, v, _, h => by rw [Rep] at h ⊢; exact h
  | .raw u, v, n, h => by rw [Rep] at h ⊢; exact h
  | .st, v, n, h => by rw [Rep] at h ⊢; exact h
  | .lst ds, v, n, h => by simp [noEv] at n
  | .tup ds, v, n, h => by
    rw [noEv] at n
    rw [Rep] at h ⊢
    obtain ⟨a, xs, e, q, r⟩ := h
    exact ⟨a, xs, e, q, RepL.farE h1 h2 h3 h4 ds xs n r⟩
  | .dic kvs, v, n, h => by
    rw [noEv] at n
    rw [Rep] at h ⊢
    obtain ⟨a, ys, e, na, q, r⟩ := h
    exact ⟨a, ys, e, fun z => na (h1 a ys z q), q, RepK.farE h1 h2 h3 h4 kvs ys n r⟩
  | .dmx kvs, v, n, h => by
    rw [noEv] at n
    rw [Rep] at h ⊢
    obtain ⟨a, ys, e, na, q, r⟩ := h
    exact ⟨a, ys, e, fun z => na (h2 a _ ys z q), q, RepP.farE h1 h2 h3 h4 kvs ys n r⟩
  | .obj C fs, v, n, h => by
    rw [noEv, Bool.and_eq_true] at n
    rw [Rep] at h ⊢
    obtain ⟨a, dx, ys, e, na, q, r⟩ := h
    refine ⟨a, dx, ys, e, fun z => na (h3 a _ dx ys z q ?_), q, RepF.farE h1 h2 h3 h4 fs ys n.2 r⟩
    rcases repF_look ("earlier" : Str) r with z | ⟨d, v, z, _⟩
    · exact z.2
    · have := n.1
      rw [z] at this
      cases this
  | .exc C fs, v, n, h => by
    rw [noEv] at n
    rw [Rep] at h ⊢
    obtain ⟨a, e, na, h⟩ := h
    rcases h with ⟨h, z⟩ | ⟨x, ys, h, nx, hx, r⟩
    · exact ⟨a, e, fun z => na (h4 a _ z (.ex _ _ _) h), .inl ⟨h, z⟩⟩
    · exact ⟨a, e, fun z => na (h4 a _ z (.ex _ _ _) h), .inr ⟨x, ys, h, fun z => nx (h4 x _ z (.xd ys) hx), hx, RepF.farE h1 h2 h3 h4 fs ys n r⟩⟩
theorem RepL.farE (h1 : ∀ b ys, A b → Rd H b (.dK ys) → A' b) (h2 : ∀ b m ys, A b → Rd H b (MD.MixO TabC.w m ys) → A' b) (h3 : ∀ b C dx (ys : List (Str × V)), A b → H b = some (.ins C dx ys) → ys.lookup ("earlier" : Str) = none → A' b) (h4 : ∀ b u, A b → XO u → H b = some u → A' b) : ∀ (ds : List D) (vs : List V), noEvL ds = true → RepL K aS H A' ds vs → RepL K aS H A ds vs
  | [], vs, _, h => by rw [RepL] at h ⊢; exact h
  | d :: ds, vs, n, h => by
    rw [noEvL, Bool.and_eq_true] at n
    rw [RepL] at h ⊢
    obtain ⟨v, vr, e, r, q⟩ := h
    exact ⟨v, vr, e, Rep.farE h1 h2 h3 h4 d v n.1 r, RepL.farE h1 h2 h3 h4 ds vr n.2 q⟩
theorem RepK.farE (h1 : ∀ b ys, A b → Rd H b (.dK ys) → A' b) (h2 : ∀ b m ys, A b → Rd H b (MD.MixO TabC.w m ys) → A' b) (h3 : ∀ b C dx (ys : List (Str × V)), A b → H b = some (.ins C dx ys) → ys.lookup ("earlier" : Str) = none → A' b) (h4 : ∀ b u, A b → XO u → H b = some u → A' b) : ∀ (ds : List (Key × D)) (vs : List (Key × V)), noEvK ds = true → RepK K aS H A' ds vs → RepK K aS H A ds vs
  | [], vs, _, h => by rw [RepK] at h ⊢; exact h
  | (k, d) :: ds, vs, n, h => by
    rw [noEvK, Bool.and_eq_true] at n
    rw [RepK] at h ⊢
    obtain ⟨v, vr, e, r, q⟩ := h
    exact ⟨v, vr, e, Rep.farE h1 h2 h3 h4 d v n.1 r, RepK.farE h1 h2 h3 h4 ds vr n.2 q⟩
theorem RepF.farE (h1 : ∀ b ys, A b → Rd H b (.dK ys) → A' b) (h2 : ∀ b m ys, A b → Rd H b (MD.MixO TabC.w m ys) → A' b) (h3 : ∀ b C dx (ys : List (Str × V)), A b → H b = some (.ins C dx ys) → ys.lookup ("earlier" : Str) = none → A' b) (h4 : ∀ b u, A b → XO u → H b = some u → A' b) : ∀ (ds : List (Str × D)) (vs : List (Str × V)), noEvF ds = true → RepF K aS H A' ds vs → RepF K aS H A ds vs
  | [], vs, _, h => by rw [RepF] at h ⊢; exact h
  | (k, d) :: ds, vs, n, h => by
    rw [noEvF, Bool.and_eq_true] at n
    rw [RepF] at h ⊢
    obtain ⟨v, vr, e, r, q⟩ := h
    exact ⟨v, vr, e, Rep.farE h1 h2 h3 h4 d v n.1 r, RepF.farE h1 h2 h3 h4 ds vr n.2 q⟩
theorem RepP.farE (h1 : ∀ b ys, A b → Rd H b (.dK ys) → A' b) (h2 : ∀ b m ys, A b → Rd H b (MD.MixO TabC.w m ys) → A' b) (h3 : ∀ b C dx (ys : List (Str × V)), A b → H b = some (.ins C dx ys) → ys.lookup ("earlier" : Str) = none → A' b) (h4 : ∀ b u, A b → XO u → H b = some u → A' b) : ∀ (ds : List (D × D)) (vs : List MD.EntV), noEvP ds = true → RepP K aS H A' ds vs → RepP K aS H A ds vs
  | [], vs, _, h => by rw [RepP] at h ⊢; exact h
  | (k, d) :: ds, vs, n, h => by
    rw [noEvP, Bool.and_eq_true, Bool.and_eq_true] at n
    rw [RepP] at h ⊢
    obtain ⟨nk, kv, v, vr, e, z, rk, r, q⟩ := h
    exact ⟨nk, kv, v, vr, e, z, Rep.farE h1 h2 h3 h4 k kv n.1.1 rk, Rep.farE h1 h2 h3 h4 d v n.1.2 r, RepP.farE h1 h2 h3 h4 ds vr n.2 q⟩
end
end
structure EvAt (K : PySem.W.Frag) (aS : Addr) (H : Hp) (A : AS) (st : Addr × Addr) (c : D × List D) : Prop where
  ne : st.1 ≠ st.2
  ex : ∃ dx v xs, H st.1 = some (.ins (He.ga K "Evening") dx [("here", v), ("earlier", .ref st.2)]) ∧ H st.2 = some (.lst xs) ∧ Rep K aS H A c.1 v ∧ RepL K aS H A c.2 xs
def evD (c : D × List D) : D := .obj "Evening" [("here", c.1), ("earlier", .lst c.2)]
def EvZ : Hid where
  S := Addr × Addr
  C := D × List D
  own st b := b = st.1 ∨ b = st.2
  hd st := .ref st.1
  at_ := EvAt
  vw := evD
  no := noEv
  dom := by
    rintro K aS H A st c b ⟨_, dx, v, xs, e1, e2, _⟩ (rfl | rfl)
    · exact ⟨_, e1, fun _ z => (nomatch z), fun _ z => (nomatch z)⟩
    · exact ⟨_, e2, fun _ z => (nomatch z), fun _ z => (nomatch z)⟩
  mono := by
    rintro K aS H H' A A' st c S k ⟨ne, dx, v, xs, e1, e2, r1, r2⟩
    exact ⟨ne, dx, v, xs, k _ _ (.inl rfl) e1, k _ _ (.inr rfl) e2, Rep.mono S _ _ r1, RepL.mono S _ _ r2⟩
  rep := by
    rintro K aS H A A' st c ⟨ne, dx, v, xs, e1, e2, r1, r2⟩ h
    have le : ∀ b, A' b → A b := fun b z => (h b z).1
    unfold evD
    rw [Rep]
    refine ⟨st.1, dx, _, rfl, fun z => (h _ z).2 (.inl rfl), e1, ?_⟩
    rw [RepF]
    refine ⟨_, _, rfl, Rep.mono (sub_le le) _ _ r1, ?_⟩
    rw [RepF]
    refine ⟨_, _, rfl, ?_, by rw [RepF]⟩
    rw [Rep]
    exact ⟨st.2, xs, rfl, fun z => (h _ z).2 (.inr rfl), e2, RepL.mono (sub_le le) _ _ r2⟩
  far := by
    rintro K aS H A A' st c d v ⟨ne, dx, w, xs, e1, e2, _⟩ h n r
    refine Rep.farE (fun b ys z q => ?_) (fun b m ys z q => ?_) (fun b C dx ys z q l => ?_) (fun b u z hu q => ?_) d v n r
    · rcases h b z with z | rfl | rfl
      · exact z
      · rcases q with q | ⟨_, q⟩ <;> rw [e1] at q <;> cases q
      · rcases q with q | ⟨_, q⟩ <;> rw [e2] at q <;> cases q
    · rcases h b z with z | rfl | rfl
      · exact z
      · rcases q with q | ⟨_, q⟩ <;> rw [e1] at q <;> (unfold MD.MixO at q; cases q)
      · rcases q with q | ⟨_, q⟩ <;> rw [e2] at q <;> (unfold MD.MixO at q; cases q)
    · rcases h b z with z | rfl | rfl
      · exact z
      · rw [e1] at q
        cases q
        cases l
      · rw [e2] at q
        cases q
    · rcases h b z with z | rfl | rfl
      · exact z
      · rw [e1] at q
        exact (hu.nins _ _ _ (Option.some.inj q).symm).elim
      · rw [e2] at q
        exact (hu.nlst _ (Option.some.inj q).symm).elim
/-! ### its methods that change it -/
section
variable {X : Cx} {E : XK} {O O' O'' OL : List Nat} {e o : Expr} {es rest : List Expr} {mo : EM D} {me : EMV EvZ D} {ml : EMV EvZ (List D)} {pos p apos : Pos} {m : Str} {k k' j : Nat} {ps : List Str} {sp : FSpV EvZ} {dds : List D}
end
/-! ### what changes it -/
section
variable {Z : Hid} {K : PySem.W.Frag} {aS : Addr} {H H' H0 : Hp} {A0 : A0T} {O : List Nat} {σ : L2.St} {s : Ev} {n : Nat} {st : Addr × Addr} {c c' : D × List D} {b : Addr} {o o' : HO}
end
section
variable {X : Cx} {E : XK} {O O' O'' OL : List Nat} {e : Expr} {me : EMV EvZ D} {pos : Pos} {j : Nat} {x : Str}
theorem hnd {K : PySem.W.Frag} {aS : Addr} {H H0 : Hp} {A0 : A0T} {σ : L2.St} {s : Ev} {n : Nat} {v : V} (S : SR K aS O A0 H0 σ H s n) (hj : j ∉ O) (e : s[j]? = some (some (.raw v))) : σ[j]? = some (some v) := by
  obtain ⟨u, h, r⟩ := S.sh j _ e hj
  rw [Rep] at r
  rw [h, r]
end
end DL
namespace DL
open PySem PySem.Spec PyProof.Rows L2
variable [TabC]
/-! ### an evening is made -/
section
variable {X : Cx} {E : XK} {O O' O'' OL : List Nat} {e : Expr} {es : List Expr} {ml : EM (List D)} {st : Stmt} {rest : List Stmt} {ms : SM} {mr : XQ → (D → Nat → Prop) → Ev → Nat → Prop} {pos p : Pos} {j : Nat} {x : Str}
end
section
variable {P : Program} {w : World} {K : PySem.W.Frag} {mg : Str → Option Value} {base : Heap} {x qual : Str} {params : Arguments} {body : List Stmt} {scope : Scope} {dvs : List V} {kws : List (Str × V)} {f : Addr} {fd : FuncData}
end
section
variable {X : Cx} {E : XK} {O O' O'' OL : List Nat} {e : Expr} {es : List Expr} {ml : EM (List D)} {rest : List Stmt} {mr : SMV EvZ} {pos p p' : Pos} {j k k' : Nat} {x C : Str} {ps : List Str} {sp : FSp}
end
end DL
namespace L2
open PySem PySem.Spec PyProof.Rows
/-! ### sorted of a list that has one thing at most -/
end L2
namespace DL
open PySem PySem.Spec PyProof.Rows L2
variable [TabC]
/-! ### comprehensions over what changes the thing -/
section
variable {Z : Hid} {X : Cx} {E : XK} {O O' OL : List Nat} {tg e iter : Expr} {ifs : List Expr} {m me : EM D} {mi : EMV Z D} {mt : EM Bool} {g : DG} {scope : Scope} {pos : Pos}
end
end DL
namespace DL
open PySem PySem.Spec PyProof.Rows L2 TR
variable [TabC]
section
variable {Z : Hid} {X : Cx} {E : XK} {O O' OB OL vs hid : List Nat} {tg e iter : Expr} {ifs : List Expr} {m me : EM D} {mi : EM (List D)} {mt : EM Bool} {g : DG} {scope : Scope} {pos : Pos} {j : Nat}
end
/-! ### try: found = .. except C as e: found = (w, e.f) ..; return found -/
section
variable {Z : Hid} {X : Cx} {E : XK} {O O' OL : List Nat} {body : List Stmt} {mb : SMV Z} {h₀ : ExceptHandler} {hds : List ExceptHandler} {hs : HS} {j : Nat} {fd : Str} {q4 q5 q6 : Pos}
end
section
variable {Z : Hid} {X : Cx} {E : XK} {O O' O'' OL : List Nat} {st : Stmt} {rest : List Stmt} {ms : SMV Z}
end
end DL
namespace DL
open PySem PySem.Spec PyProof.Rows L2
variable [TabC]
section
variable {Z : Hid} {X : Cx} {E : XK} {O OL hs ws : List Nat} {e tg iter : Expr} {ifs : List Expr} {me : EM D} {mt : EM Bool} {g : DG} {scope : Scope} {pos : Pos} {own : List (Str × Nat)} {i j : Nat} {y : Str}
end
end DL
namespace DL
open PySem PySem.Spec PyProof.Rows L2 PySem.W
variable [TabC]
/-! ### sorted of pairs (a number, a text) -/
end DL
namespace DL
open PySem PySem.Spec PyProof.Rows L2
variable [TabC]
/-! ### what changes a thing, read as a plain step -/
section
variable {Z : Hid}
def Ro (sp : FSpV Z) (st : Z.S) (c : Z.C) (ds : List D) (d : D) (c' : Z.C) : Prop := ∀ xq n Q, Q d c' n → sp.run st c ds n Q xq
variable {st : Z.S} {c c1 c2 c' : Z.C} {s s1 s' : Ev} {d d1 d2 : D} {x : XD} {o : SO} {a b : SMV Z} {m m1 m2 : EMV Z D} {t u : EMV Z Bool} {l : EMV Z (List D)} {ds es : List D} {i j len : Nat}
end
section
variable {st : Addr × Addr} {c c1 c2 c' : D × List D} {s s1 s' : Ev} {d h : D} {x : XD} {m : EMV EvZ D} {l : EMV EvZ (List D)} {ds dds hs : List D} {j len : Nat} {mn : Str} {sp : FSpV EvZ} {f : FM D}
end
end DL
namespace DL
open PySem PySem.Spec PyProof.Rows L2 MD
variable [TabC]
/-! x in d.values(), x not in d.values() -/
section
variable {K : PySem.W.Frag} {aS : Addr} {H : Hp} {A : AS}
end
section
variable {X : Cx} {E : XK} {O : List Nat} {a e : Expr} {ma : EM D} {p : Ev → Option D} {apos cpos pos : Pos}
end
end DL
namespace DL
open PySem PySem.Spec PyProof.Rows L2
variable [TabC]
/-! within a test what slots own may be met: the test tells no thing -/
section
variable {X : Cx} {E : XK} {O O' : List Nat} {e : Expr} {m : EM Bool}
end
section
variable {X : Cx} {E : XK} {O O' : List Nat} {e : Expr} {m : EM D}
end
/-! flat forms -/
end DL
namespace DL
open PySem PySem.Spec PyProof.Rows L2 MD
variable [TabC]
/-! comparisons by own methods, and with d.values(), as tests -/
section
variable {X : Cx} {E : XK} {O : List Nat} {a b e : Expr} {mo me ma : EM D} {pos : Pos} {C : Str} {ps : List Str} {k k' : Nat} {sp : FSp}
/-! x in d.values() -/
variable {apos cpos : Pos}
end
/-! flat -/
section
variable {a : FM D} {m : EM D}
end
end DL
namespace TR
open PySem PySem.Spec PySem.Calls PyProof.Rows L2
/-! ### an except clause that names several classes -/
section
variable {M : Model} {K : PySem.W.Frag} {A : Around} {E : Value → Shared → Prop} {s : Shared} {cls : Value} {h : Heap}
end
end TR
namespace TR
open PySem PySem.Spec PyProof.Rows L2 DL
/-! ### the exception that a clause holds, tracked as a thing of its own -/
section
variable {X : Cx} {pins : List (Addr × Obj)} {σ : L2.St} {H : Hp} {s sI : Shared} {a : Addr} {oe : Obj} {vs : Array Value} {cls : Value} {d : Option Addr}
end
abbrev HdT := List Value × Nat × (Addr → Value → Option Addr → TS)
section
variable {X : Cx} {body : List Stmt} {h₀ : ExceptHandler} {hds : List ExceptHandler} {l : List HdT} {pos : Pos} {tb : WX → TS} {Wout : WX}
end
end TR
namespace DL
open PySem PySem.Spec PyProof.Rows L2
variable [TabC]
/-! ### exceptions as things: isinstance(e, C), isinstance(e, (C, ..)), e.f -/
section
variable {X : Cx} {E : XK} {O : List Nat} {e : Expr} {m : EM D} {pos p p2 : Pos} {Cs Ds : List Str}
end
/-! readings -/
end DL
namespace DL
open PySem PySem.Spec PyProof.Rows L2 TR
variable [TabC]
/-! ### try: .. except (C, ..) as e: ..; what comes behind, by the exception alone -/
abbrev HXs (Z : Hid) := List (List Str × Nat × SMV Z)
section
variable {Z : Hid} {K : PySem.W.Frag} {aS : Addr} {H H' H0 Hb : Hp} {A0 : A0T} {σ σ' : L2.St} {s s' : Ev} {n n' : Nat} {st : Z.S} {c c' : Z.C}
end
section
variable {Z : Hid} {X : Cx} {E : XK} {O' OL : List Nat} {body rest : List Stmt} {mb mr : SMV Z} {h₀ : ExceptHandler} {hds : List ExceptHandler} {hs : HXs Z} {As : List Str} {q4 : Pos}
end
end DL
namespace DL
open PySem PySem.Spec PyProof.Rows L2
variable [TabC]
/-! ### a if t else b, where the thing may be changed -/
section
variable {Z : Hid} {X : Cx} {E : XK} {O : List Nat} {a b c : Expr} {ma mb : EMV Z D} {tA : EMV Z Bool} {pos : Pos}
end
end DL
namespace DL
open PySem PySem.Spec PyProof.Rows L2
variable [TabC]
/-! ### for x in range(n), with a body that may change the thing -/
section
variable {Z : Hid} {X : Cx} {E : XK} {O OL vs : List Nat} {tg : Expr} {g : DG} {body : List Stmt} {mb : SMV Z} {m : EM D} {pos : Pos}
end
/-! ### x, y = Evening(..), e -/
section
variable {X : Cx} {E : XK} {O O' OL : List Nat} {C : Str} {e b : Expr} {es : List Expr} {rest : List Stmt} {ml : EM (List D)} {mb : EMV EvZ D} {mr : SMV EvZ} {j i k k' : Nat} {ps : List Str} {sp : FSp} {x y : Str} {p px py pt pos pos2 : Pos}
end
end DL
/-! ### [x, y] != [z, w] by own __eq__, where all are equal -/
namespace GQ
open PySem PySem.SeqAt
open AutoSeq1 (wpAny_loadPart')
open MeetsSeq MeetsSeq2 MeetsSeq3 SeqRoads2
section
variable {prog : Program} {w : World} {A : Around} {R : Result → Shared → Prop}
end
section
variable {prog : Program} {w : World} {A : Around} {E : Value → Shared → Prop} {s : Shared}
end
end GQ
namespace DL
open PySem PySem.Spec PyProof.Rows L2
variable [TabC]
section
variable {X : Cx} {CX : CXT} {C f : Addr} {fd : FuncData} {ps : List Str} {sp : Sp} {E : XK} {k : Nat}
end
section
variable {X : Cx} {CX : CXT} {C1 f1 C2 f2 : Addr} {fd1 fd2 : FuncData} {ps1 ps2 : List Str} {sp1 sp2 : Sp} {E : XK} {k k2 : Nat}
end

section
variable {X : Cx} {E : XK} {O : List Nat} {a b : Expr} {mo me : EM D} {pos : Pos} {C1 C2 : Str} {ps1 ps2 : List Str} {k1 k2 k' : Nat} {f1 f2 : FFn}
end
end DL
namespace DL
open PySem PySem.Spec PyProof.Rows L2
variable [TabC]
end DL
namespace DL
open PySem PySem.Spec PyProof.Rows L2
variable [TabC]
/-! ### a path: what stands in a dict under a text -/
section
variable {X : Cx} {O : List Nat} {e : Expr} {p : Ev → Option D} {pos : Pos}
end
end DL
namespace DL
open PySem PySem.Spec PyProof.Rows L2
variable [TabC]
/-! ### x in y, x not in y, by an own __contains__ of y's class -/
section
variable {X : Cx} {CX : CXT} {C f : Addr} {fd : FuncData} {ps : List Str} {sp : Sp} {E : XK} {k : Nat}
end
section
variable {X : Cx} {E : XK} {O : List Nat} {a b : Expr} {mo me : EM D} {pos : Pos} {C : Str} {ps : List Str} {k k' : Nat} {sp : FSp} {ng : Bool}
end
section
variable {a b : FM D}
end
end DL
namespace DL
open PySem PySem.Spec PyProof.Rows L2
variable [TabC]
end DL
namespace DL
open PySem PySem.Spec PyProof.Rows L2
variable [TabC]
end DL
namespace DL
open PySem PySem.Spec PyProof.Rows L2
variable [TabC]
end DL
namespace DL
open PySem PySem.Spec PyProof.Rows L2
variable [TabC]
end DL
namespace DL
open PySem PySem.Spec PyProof.Rows L2
variable [TabC]
end DL
namespace DL
open PySem PySem.Spec PyProof.Rows L2
variable [TabC]
end DL
namespace DL
open PySem PySem.Spec PyProof.Rows L2
variable [TabC]
end DL
namespace DL
open PySem PySem.Spec PyProof.Rows L2
variable [TabC]
/-! ### defs that hand back None or a new thing -/
section
variable {X : Cx} {E : XK} {O O' OL : List Nat} {e : Expr} {es : List Expr} {st : Stmt} {rest : List Stmt} {m ma mb : EM D} {ml : EM (List D)} {ms mr m1 m2 : SM} {pos p : Pos} {i j : Nat} {x y : Str} {ps : List Str} {k k' : Nat} {sp : FSp} {dds : List D}
/-! a name takes such a thing: what follows is read twice -/
end
/-! by their names -/
section
variable {P : Program} {w : World} {K : PySem.W.Frag} {mg : Str → Option Value} {base : Heap} {x qual : Str} {params : Arguments} {body : List Stmt} {scope : Scope} {dvs : List V} {kws : List (Str × V)} {f : Addr} {fd : FuncData}
end
/-! flat forms -/
section
variable {X : Cx} {E : XK} {O : List Nat} {e : Expr} {st : List Stmt}
end
end DL
namespace DL
open PySem PySem.Spec PyProof.Rows L2
variable [TabC]
/-! l.count(x), texts -/
section
variable {X : Cx} {E : XK} {O OL : List Nat} {e o : Expr} {mo mx : EM D} {pos : Pos}
end
end DL
namespace DL
open PySem PySem.Spec PyProof.Rows L2
variable [TabC]
/-! ### xs[::-1] -/
section
variable {K : PySem.W.Frag} {aS : Addr} {H : Hp} {A : AS}
end
section
variable {X : Cx} {E : XK} {O : List Nat} {e : Expr} {m : EM D}
end
end DL
namespace DL
open PySem PySem.Spec PyProof.Rows L2
variable [TabC]
/-! ### texts: str(n), int(text), sep.join(xs), line.split(sep) -/
section
variable {X : Cx} {E : XK} {O : List Nat} {e o : Expr} {mo me : EM D} {pos ap : Pos}
end
end DL
namespace DL
open PySem PySem.Spec PyProof.Rows L2
variable [TabC]
/-! ### isinstance(x, D), x an object of one of some own classes -/
section
variable {X : Cx} {E : XK} {O O' OL : List Nat} {e : Expr} {m me : EM D} {pos p p2 : Pos} {Cs : List Str}
/-! ### D[k], D a dict of the module with texts -/
/-! ### a try whose body raises nothing -/
end
end DL
namespace DL
open PySem PySem.Spec PyProof.Rows L2
variable [TabC]
/-! ### walking the rows of a new dict: f(..).items() -/
section
variable {X : Cx} {E : XK} {O : List Nat} {e tg : Expr} {m : EM D} {pos : Pos}
end
end DL
namespace DL
open PySem PySem.Spec PyProof.Rows L2
variable [TabC]
/-! three targets, each takes a new thing -/
section
variable {X : Cx} {E : XK} {O OL : List Nat} {a b c : Expr} {ma mb mc : EM D} {pos : Pos} {i j l : Nat} {x y z : Str}
end
end DL
namespace DL
open PySem PySem.Spec PyProof.Rows L2
variable [TabC]
/-! an expression read in one of two ways -/
/-! .. a statement -/
end DL
namespace DL
open PySem PySem.Spec PyProof.Rows L2
variable [TabC]
/-! a test read in one of two ways -/
end DL
namespace DL
open PySem PySem.Spec PyProof.Rows L2
variable [TabC]
end DL
namespace DL
open PySem PySem.Spec PyProof.Rows L2
variable [TabC]
end DL
namespace DL
open PySem PySem.Spec PyProof.Rows L2
variable [TabC]
end DL
namespace DL.K46
open PySem PySem.Spec PyProof.Rows L2
variable [TabC]
abbrev Mins := List (Str × Int)
/-- the law's own evening -/
structure LM where
  dishes : Dis
  wishes : List Wi
  rows : Row
  starts : Mins
  dones : Mins
  now : Int
  sts : List Sta
end DL.K46
namespace DL
open PySem PySem.Spec PyProof.Rows L2
variable [TabC]
section
variable {bs : Dis} {ws : List Wi} {ss : List (List Str)} {r1 r2 : Row} {k1 k2 : Str → Nat}
end
/-! ### by how much: plain sums -/
section
variable {bs : Dis} {r1 r2 : Row} {k1 k2 : Str → Nat}
/-- times of the meal -/
def InT (bs : Dis) (t : Tm) : Prop := ∀ x ∈ keys bs, (get bs x).1 ≤ get t x ∧ get t x ≤ (get bs x).2
end
end DL
namespace DL
open PySem PySem.Spec PyProof.Rows L2
variable [TabC]
/-! ### drawn hangings -/
theorem hung_split : ∀ {l : Anc} {up : List Str}, Hung l up → ∀ x a, (x, a) ∈ l → ∃ pre post, l = pre ++ (x, a) :: post ∧ (a = "clock" ∨ a ∈ up ++ keys pre)
  | (y, b) :: l, up, h, x, a, hm => by
    rcases List.mem_cons.mp hm with z | z
    · cases z
      exact ⟨[], l, rfl, by rw [keys, List.map_nil, List.append_nil]; exact h.1⟩
    · obtain ⟨pre, post, e, q⟩ := hung_split h.2 x a z
      refine ⟨(y, b) :: pre, post, by rw [e]; rfl, q.imp id fun w => ?_⟩
      rw [List.append_assoc] at w
      exact w
/-! ### one row otherwise -/
def setR {α : Type} (l : List (Str × α)) (x : Str) (a : α) : List (Str × α) := l.map fun p => (p.1, if p.1 = x then a else p.2)
theorem keys_set {α : Type} (l : List (Str × α)) (x : Str) (a : α) : keys (setR l x a) = keys l := by
  unfold setR keys
  rw [List.map_map]
  rfl
theorem len_set {α : Type} (l : List (Str × α)) (x : Str) (a : α) : (setR l x a).length = l.length := List.length_map _
theorem put_old {α : Type} {f : α → D} {l : List (Str × α)} {x : Str} {a : α} (h : x ∈ keys l) : putD (mapD f l) (.inr x) (f a) = mapD f (setR l x a) := by
  unfold putD
  have e : (lookK (mapD f l) (.inr x)).isSome = true := by
    rw [lookK_map]
    obtain ⟨b, hb⟩ := look_mem h
    rw [hb]
    rfl
  rw [if_pos e]
  unfold mapD setR
  rw [List.map_map, List.map_map]
  refine List.map_congr_left fun p _ => ?_
  show ((Sum.inr p.1 : Key), if (Sum.inr p.1 : Key) = .inr x then f a else f p.2) = (.inr p.1, f (if p.1 = x then a else p.2))
  by_cases z : p.1 = x
  · rw [if_pos (by rw [z]), if_pos z]
  · rw [if_neg (fun y => z (Sum.inr.inj y)), if_neg z]
end DL
namespace DL
open PySem PySem.Spec PyProof.Rows L2
variable [TabC]
end DL
namespace DL
open PySem PySem.Spec PyProof.Rows L2
variable [TabC]
/-! ### moments as lists or tuples -/
def Mo.dl (tp : Bool) : Mo → D
  | .clock => .str "clock"
  | .start x => rowD tp [.str "start", .str x]
  | .done x => rowD tp [.str "done", .str x]
/-! ### the minute of a moment -/
def mn (rs : Row) (t : Tm) : Mo → Int
  | .clock => 0
  | .start x => st rs t x
  | .done x => st rs t x + get t x
theorem mn_eq (rs : Row) (t : Tm) (m : Mo) : mn rs t m = wsum rs m + ((wayM (anc rs) m).map (get t)).sum := by
  cases m with
  | clock => rfl
  | start x => rfl
  | done x =>
    show st rs t x + get t x = added rs x + ((chain (anc rs) x ++ [x]).map (get t)).sum
    unfold st
    rw [List.map_append, List.sum_append]
    show _ = added rs x + (_ + (get t x + 0))
    omega
section
variable {bs : Dis} {rs : Row} {rk : Str → Nat} {one other : Mo}
end
/-! ### the minutes of all times -/
end DL
namespace DL
open PySem PySem.Spec PyProof.Rows L2
variable [TabC]
/-! ### sorted or not -/
/-! ### dicts of numbers, compared -/
/-! ### defs that tell something new -/
end DL
namespace DL.EV
open PySem PySem.Spec PyProof.Rows L2
variable [TabC]
/-! ### what a standing answers -/
abbrev Tms := List (Str × Int)
section
variable {now m : Int} {ml : D} {R : Row} {S Dn : Tms} {x : Str}
end
end DL.EV
namespace DL.XP
open PySem PySem.Spec PyProof.Rows L2
variable [TabC]
/-! ### errors that leave -/
section
variable {a b : FM D} {l : FM (List D)} {s : Ev} {x : XD} {d : D} {t : FM Bool} {f g : FS}
theorem dropX (h : a s = .ex x) : fDrop a s = .ex x := by
  unfold fDrop
  rw [h]
  rfl
theorem raiseE {C : Str} {fl : List Str} {ds : List D} (h : l s = .ok ds) (hl : ds.length = fl.length) : fRaise C fl l s = .ex (C, ES.fsOf fl ds) := by
  unfold fRaise
  rw [h]
  show (if ds.length = fl.length then _ else _) = _
  rw [if_pos hl]
open TR in
theorem triedX {ok : OKF} {hs : HS} {O : List Nat} {f : FM D} {hv : HV} (h : f (hideL s O) = .ex x) (h1 : hpick hs x.1 = some hv) (h2 : hvD hv x.2 = some d) : fTried ok hs O f s = .ok d := by
  unfold fTried
  rw [h]
  show ofO ((hpick hs x.1).bind fun hv => hvD hv x.2) = _
  rw [h1]
  show ofO (hvD hv x.2) = _
  rw [h2]
  rfl
open TR in
theorem triedO {ok : OKF} {hs : HS} {O : List Nat} {f : FM D} (h : f (hideL s O) = .ok d) : fTried ok hs O f s = .ok (okD1 ok d) := by
  unfold fTried
  rw [h]
end
end DL.XP
namespace DL.EV
open PySem PySem.Spec PyProof.Rows L2
variable [TabC]
/-! ### what an evening's deeds answer -/
theorem nd_lenS {xs : List Str} (hn : xs.Nodup) : ∀ {L : List Str}, (∀ x ∈ xs, x ∈ L) → xs.length ≤ L.length := by
  induction xs with
  | nil => intro L _; exact Nat.zero_le _
  | cons x xs ih =>
    intro L h
    have hx := h x List.mem_cons_self
    rw [List.nodup_cons] at hn
    have := ih hn.2 (L := L.erase x) fun y hy => by
      have hyx : y ≠ x := fun e => hn.1 (e ▸ hy)
      exact (List.mem_erase_of_ne hyx).mpr (h y (List.mem_cons_of_mem _ hy))
    rw [List.length_erase_of_mem hx] at this
    have hp := List.length_pos_of_mem hx
    rw [List.length_cons]
    omega
section
variable {now m k : Int} {ml : D} {B : Dis} {ws : List Wi} {ss : List (List Str)} {R R' : Row} {S S' Dn Dn' : Tms} {x : Str} {ea : List D} {st : Addr × Addr}
end
end DL.EV
namespace DL.EV
open PySem PySem.Spec PyProof.Rows L2
variable [TabC]
section
variable {now m k : Int} {ml : D} {B : Dis} {ws : List Wi} {ss : List (List Str)} {R R' : Row} {S S' Dn Dn' : Tms} {x : Str} {ea : List D} {st : Addr × Addr}
end
end DL.EV
namespace DL
open PySem PySem.Spec PyProof.Rows L2
variable [TabC]
/-! ### the rows of a hanging, and their words -/
abbrev Wd := Str × Key
section
variable {tp : Bool} {a : Wd} {wd rows : List D}
end
/-! ### wishes and orders as rows -/
section
variable {bs : Dis} {l : Anc} {rk : Str → Nat}
end
end DL
namespace DL
open PySem PySem.Spec PyProof.Rows L2
variable [TabC]
section
variable {bs : Dis} {l : Anc} {rk : Str → Nat}
variable {ws : List Wi} {os : List (Str × Str)} {ss : List (List Str)}
end
end DL
namespace DL
open PySem PySem.Spec PyProof.Rows L2
variable [TabC]
/-! ### the law's own numbers -/
end DL
namespace DL.SK
open PySem PySem.Spec PyProof.Rows L2
variable [TabC]
/-! ### what is told so far: some dishes hang, none round and round -/
/-! ### settled dishes -/
end DL.SK
namespace DL
open PySem PySem.Spec PyProof.Rows L2
variable [TabC]
end DL
namespace DL
/-! ### rounds of rows: the worths are pushed down, pass by pass; a worth may be lacking -/
section
variable {α : Type} [DecidableEq α]
abbrev Edge (α : Type) := α × α × Int
/-! what goes with each step -/
/-! ### back along the rows that moved last -/
end
end DL
namespace DL
section
variable {α : Type} [DecidableEq α]
/-! ### rows that lead from one to another -/
/-! the way back -/
/-- the least number at which something holds -/
theorem least {P : Nat → Prop} : ∀ n, P n → ∃ m, m ≤ n ∧ P m ∧ ∀ i, i < m → ¬ P i
  | 0, h => ⟨0, Nat.le_refl _, h, fun _ z => nomatch z⟩
  | n + 1, h => by
    by_cases z : ∃ i, i ≤ n ∧ P i
    · obtain ⟨i, hi, hp⟩ := z
      obtain ⟨m, h1, h2, h3⟩ := least i hp
      exact ⟨m, by omega, h2, h3⟩
    · exact ⟨n + 1, Nat.le_refl _, h, fun i hi hp => z ⟨i, by omega, hp⟩⟩
termination_by n => n
/-! ### all worths known: rows are kept, or there is a ring -/
/-! ### from one origin -/
inductive Walk (rows : List (Edge α)) (o : α) : α → Int → Prop
  | nil : Walk rows o o 0
  | step {u v : α} {x c : Int} : Walk rows o u x → (u, v, c) ∈ rows → Walk rows o v (x + c)
end
end DL
namespace DL
open PySem PySem.Spec PyProof.Rows L2
variable [TabC]
/-! ### dicts from things to data, whatever they are kept in -/
section
variable {α : Type} [DecidableEq α]
def putA (l : List (α × D)) (x : α) (d : D) : List (α × D) := if x ∈ l.map (·.1) then l.map (fun p => if p.1 = x then (p.1, d) else p) else l ++ [(x, d)]
structure Ops (α : Type) [DecidableEq α] where
  key : α → D
  ok : α → Prop
  enc : List (α × D) → D
  idx : D → D → Option D
  inn : D → D → Option D
  nin : D → D → Option D
  put : Nat → FM D → FM D → FS
  em : FM D
  cp : FM D
  ln : FM D
  disp : FM D
  look : ∀ {l : List (α × D)} {x : α}, ok x → (∀ p ∈ l, ok p.1) → idx (enc l) (key x) = l.lookup x
  isIn : ∀ {l : List (α × D)} {x : α}, ok x → (∀ p ∈ l, ok p.1) → inn (key x) (enc l) = some (.bl (l.lookup x).isSome)
  notIn : ∀ {l : List (α × D)} {x : α}, ok x → (∀ p ∈ l, ok p.1) → nin (key x) (enc l) = some (.bl (!(l.lookup x).isSome))
  puts : ∀ {i : Nat} {s : Ev} {l : List (α × D)} {k a : FM D} {x : α} {d : D}, s[i]? = some (some (enc l)) → a s = .ok d → k s = .ok (key x) → ok x → (∀ p ∈ l, ok p.1) → l.length < LIM → put i k a s = .nx (s.set i (some (enc (putA l x d))))
  ne : ∀ {x y : α}, ok x → ok y → dNe (key x) (key y) = some (.bl (!decide (x = y)))
  isn : ∀ x : α, dIs (key x) .non = some (.bl false)
  ems : ∀ s, em s = .ok (enc [])
  cps : ∀ {s : Ev} {l : List α}, s[1]? = some (some (enc (l.map fun x => (x, .bl true)))) → l.Nodup → (∀ x ∈ l, ok x) → l.length < LIM → 12 < s.length → cp s = .ok (enc (l.map fun x => (x, .int 0)))
  lns : ∀ {s : Ev} {l : List (α × D)}, s[1]? = some (some (enc l)) → l.length < LIM → ln s = .ok (.int l.length)
  disps : ∀ {s : Ev} {x : α}, s[1]? = some (some (key x)) → ok x → disp s = .ok (enc [(x, .int 0)])
/-! the program's text, over any dicts -/
variable (O : Ops α)
def H1 : FS := (fIfS (fAndT (fBinT O.inn (fVar 4) (fVar 2)) (fOrT (fBinT O.nin (fVar 5) (fVar 2)) (fBinT dLt (fBin dAdd (fBin O.idx (fVar 2) (fVar 4)) (fVar 6)) (fBin O.idx (fVar 2) (fVar 5))))) (fSeq (O.put 2 (fVar 5) (fBin dAdd (fBin O.idx (fVar 2) (fVar 4)) (fVar 6))) (fSet 3 (fC (.bl true)))) fNilS)
def H2 : FS := (fSeq (fSet 3 (fC (.bl false))) (fFor (fIter (fVar 0)) (fgTp (fgsCons (fgNm 4) (fgsCons (fgNm 5) (fgsCons (fgNm 6) fgsNil)))) (H1 O)))
variable {O}
end
end DL
namespace DL
open PySem PySem.Spec PyProof.Rows L2
variable [TabC]
section
variable {α : Type} [DecidableEq α] {O : Ops α}
theorem forL_cons {g : FG} {b : FS} {d : D} {ds : List D} {s s1 s2 : Ev} {o : SO} (h : g d s = some s1) (h2 : b s1 = .nx s2) (h3 : fForL g b ds s2 = o) : fForL g b (d :: ds) s = o := by
  rw [fForL, h]
  show (match b s1 with | .nx s2 => fForL g b ds s2 | .ct s2 => fForL g b ds s2 | .bk s2 => .nx s2 | o => o) = _
  rw [h2]
  exact h3
end
end DL
namespace DL
open PySem PySem.Spec PyProof.Rows L2
variable [TabC]
section
variable {α : Type} [DecidableEq α] {O : Ops α}
/-! ### bounds -/
def ends (rows : List (Edge α)) : List α := rows.flatMap fun r => [r.1, r.2.1]
end
end DL
namespace DL
open PySem PySem.Spec PyProof.Rows L2
variable [TabC]
/-! ### texts as keys -/
/-- rows between texts -/
abbrev eD (r : Edge Str) : D := .tup [.str r.1, .str r.2.1, .int r.2.2]
end DL
namespace DL
open PySem PySem.Spec PyProof.Rows L2
variable [TabC]
/-! ### rows of a hanging: a ring, or least and greatest sums -/
def turned (rows : List (Edge Str)) : List (Edge Str) := rows.map fun r => (r.2.1, r.1, r.2.2)
section
variable {bs : Dis} {l : Anc} {rk : Str → Nat} {ws : List Wi} {os : List (Str × Str)} {ss : List (List Str)} {oe : D}
/-! books with some sums -/
end
end DL
namespace DL
open PySem PySem.Spec PyProof.Rows L2
variable [TabC]
/-! ### worst times; whether all wishes are kept -/
section
variable {bs : Dis} {ws : List Wi} {rs : Row} {rk : Str → Nat}
/-- a book keeps a wish in all times -/
def keeps (bs : Dis) (rs : Row) (w : Wi) : Bool := decide (behd bs rs w.one w.other ≤ w.most)
end
/-! ### what a book's sums keep -/
section
variable {bs : Dis} {rs : Row} {l : Anc} {rk : Str → Nat} {ws : List Wi} {os : List (Str × Str)}
/-! the rows by their places -/
end
end DL
namespace DL
open PySem PySem.Spec PyProof.Rows L2
variable [TabC]
/-! ### least sums, greatest sums -/
section
variable {bs : Dis} {l : Anc} {rk : Str → Nat} {ws : List Wi} {os : List (Str × Str)} {ss : List (List Str)} {oe : D}
end
end DL
namespace DL
open PySem PySem.Spec PyProof.Rows L2
variable [TabC]
end DL
namespace DL
open PySem PySem.Spec PyProof.Rows L2
variable [TabC]
/-! ### the law's own least sums -/
/-! the dict -/
section
variable {ns : List Str} {rows : List (Edge Str)}
end
end DL
namespace DL
open PySem PySem.Spec PyProof.Rows L2
variable [TabC]
/-! ### moments as keys -/
instance decMo : DecidableEq Mo
  | .clock, .clock => .isTrue rfl
  | .start x, .start y => if h : x = y then .isTrue (by rw [h]) else .isFalse fun e => h (Mo.start.inj e)
  | .done x, .done y => if h : x = y then .isTrue (by rw [h]) else .isFalse fun e => h (Mo.done.inj e)
  | .clock, .start _ => .isFalse fun e => nomatch e
  | .clock, .done _ => .isFalse fun e => nomatch e
  | .start _, .clock => .isFalse fun e => nomatch e
  | .start _, .done _ => .isFalse fun e => nomatch e
  | .done _, .clock => .isFalse fun e => nomatch e
  | .done _, .start _ => .isFalse fun e => nomatch e
end DL
namespace DL.TT
open PySem PySem.Spec PyProof.Rows L2
variable [TabC]
/-! ### the rows that times must keep -/
/-! ### the rows and the minutes -/
variable {bs : Dis} {rs : Row} {rk : Str → Nat}
/-! ### what times_with answers -/
/-! ### loose wishes -/
end DL.TT
namespace DL
open PySem PySem.Spec PyProof.Rows L2
variable [TabC]
/-! ### things in ascending order, whatever is compared -/
section
variable {α : Type} (R : α → α → Bool)
end
/-! ### pairs of ascending names -/
/-! ### two dishes at a station -/
def onB (rs : Row) (t : Tm) (p : Str × Str) : Prop := mn rs t (.start p.1) < mn rs t (.done p.2) ∧ mn rs t (.start p.2) < mn rs t (.done p.1)
end DL
namespace DL
open PySem PySem.Spec PyProof.Rows L2
variable [TabC]
/-! ### two dishes that are never on at once come in one order -/
variable {bs : Dis} {rs : Row} {rk : Str → Nat}
/-- times with one dish otherwise -/
def setT (t : Tm) (x : Str) (m : Int) : Tm := t.map fun p => (p.1, if p.1 = x then m else p.2)
theorem keys_setT (t : Tm) (x : Str) (m : Int) : keys (setT t x m) = keys t := by
  unfold setT keys
  rw [List.map_map]
  rfl
theorem look_setT (t : Tm) (x : Str) (m : Int) (y : Str) : (setT t x m).lookup y = (t.lookup y).map fun v => if y = x then m else v := by
  induction t with
  | nil => rfl
  | cons p t ih =>
    unfold setT at ih ⊢
    rw [List.map_cons, List.lookup_cons, List.lookup_cons]
    by_cases h : (y == p.1) = true
    · have e : y = p.1 := by simpa using h
      rw [h]
      subst e
      rfl
    · have h2 : (y == p.1) = false := by simpa using h
      rw [h2]
      exact ih
theorem get_setT {t : Tm} {x y : Str} {m : Int} (hy : y ∈ keys t) : get (setT t x m) y = if y = x then m else get t y := by
  unfold get
  rw [look_setT, look_get hy]
  rfl
theorem sum_set {f : Str → Int} {x : Str} {d : Int} : ∀ {ys : List Str}, ys.Nodup → (ys.map fun y => if y = x then f y + d else f y).sum = (ys.map f).sum + if x ∈ ys then d else 0
  | [], _ => by simp
  | y :: ys, h => by
    rw [List.nodup_cons] at h
    have ih := sum_set (f := f) (x := x) (d := d) h.2
    rw [List.map_cons, List.sum_cons, ih, List.map_cons, List.sum_cons]
    by_cases e : y = x
    · subst e
      rw [if_pos rfl, if_neg h.1, if_pos List.mem_cons_self]
      omega
    · rw [if_neg e]
      by_cases e2 : x ∈ ys
      · rw [if_pos e2, if_pos (List.mem_cons_of_mem _ e2)]; omega
      · rw [if_neg e2, if_neg (fun z => (List.mem_cons.mp z).elim (fun z => e z.symm) e2)]; omega
theorem wayM_nd (B : BookOk rs rk) {m : Mo} (h : m.ok (keys rs)) : (wayM (anc rs) m).Nodup := by
  have hk : ∀ x, x ∈ keys rs → x ∈ keys (anc rs) := fun x hx => by rw [keys_anc]; exact hx
  cases m with
  | clock => exact List.nodup_nil
  | start x => exact chain_nd B.acy x (hk x h)
  | done x =>
    show (chain (anc rs) x ++ [x]).Nodup
    rw [List.nodup_append]
    refine ⟨chain_nd B.acy x (hk x h), List.nodup_cons.mpr ⟨List.not_mem_nil, List.nodup_nil⟩, fun a ha b hb z => ?_⟩
    rw [List.mem_singleton] at hb
    have := (chain_rk B.acy x (hk x h) a ha).2
    rw [z, hb] at this
    exact Nat.lt_irrefl _ this
/-- one dish takes d minutes more -/
theorem mn_set (B : BookOk rs rk) {t : Tm} {x : Str} {d : Int} (hk : ∀ y ∈ keys rs, y ∈ keys t) {m : Mo} (h : m.ok (keys rs)) : mn rs (setT t x (get t x + d)) m = mn rs t m + if x ∈ wayM (anc rs) m then d else 0 := by
  rw [mn_eq, mn_eq]
  have e : (wayM (anc rs) m).map (get (setT t x (get t x + d))) = (wayM (anc rs) m).map fun y => if y = x then get t y + d else get t y := by
    refine List.map_congr_left fun y hy => ?_
    have hy2 := way_mem B.acy (Mo.ok_anc h) y hy
    rw [keys_anc] at hy2
    rw [get_setT (hk y hy2)]
    by_cases z : y = x
    · rw [if_pos z, if_pos z, z]
    · rw [if_neg z, if_neg z]
  rw [e, sum_set (wayM_nd B h)]
  omega
def dist1 (t u : Tm) (ks : List Str) : Nat := (ks.map fun x => (get t x - get u x).natAbs).sum
theorem dist_zero {t u : Tm} : ∀ {ks : List Str}, dist1 t u ks = 0 → ∀ x ∈ ks, get t x = get u x
  | k :: ks, h, x, hx => by
    unfold dist1 at h
    rw [List.map_cons, List.sum_cons] at h
    rcases List.mem_cons.mp hx with rfl | hx
    · omega
    · exact dist_zero (ks := ks) (by unfold dist1; omega) x hx
theorem dist_step {t u : Tm} {x : Str} {m : Int} (hm : (m - get u x).natAbs + 1 = (get t x - get u x).natAbs) : ∀ {ks : List Str}, ks.Nodup → (∀ y ∈ ks, y ∈ keys t) → x ∈ ks → dist1 (setT t x m) u ks + 1 = dist1 t u ks
  | k :: ks, hn, hk, hx => by
    rw [List.nodup_cons] at hn
    have e : ∀ y ∈ keys t, get (setT t x m) y = if y = x then m else get t y := fun y hy => get_setT hy
    unfold dist1
    rw [List.map_cons, List.sum_cons, List.map_cons, List.sum_cons, e k (hk k List.mem_cons_self)]
    by_cases z : k = x
    · subst z
      rw [if_pos rfl]
      have : (ks.map fun y => (get (setT t k m) y - get u y).natAbs) = ks.map fun y => (get t y - get u y).natAbs := by
        refine List.map_congr_left fun y hy => ?_
        rw [e y (hk y (List.mem_cons_of_mem _ hy)), if_neg]
        intro z
        exact hn.1 (z ▸ hy)
      rw [this]
      omega
    · rw [if_neg z]
      have := dist_step (u := u) hm hn.2 (fun y hy => hk y (List.mem_cons_of_mem _ hy)) ((List.mem_cons.mp hx).resolve_left fun z2 => z z2.symm)
      unfold dist1 at this
      omega
theorem dist_pos {t u : Tm} : ∀ {ks : List Str}, dist1 t u ks ≠ 0 → ∃ x ∈ ks, get t x ≠ get u x
  | [], h => absurd rfl h
  | k :: ks, h => by
    by_cases z : get t k = get u k
    · have : dist1 t u ks ≠ 0 := by
        unfold dist1 at h ⊢
        rw [List.map_cons, List.sum_cons, z, Int.sub_self] at h
        simpa using h
      obtain ⟨x, hx, hn⟩ := dist_pos this
      exact ⟨x, List.mem_cons_of_mem _ hx, hn⟩
    · exact ⟨k, List.mem_cons_self, z⟩
/-- from times in which b is ahead to times in which a is ahead: on the way they meet -/
theorem between (B : BookOk rs rk) (hp : (keys bs).Perm (keys rs)) {a b : Str} (ha : a ∈ keys rs) (hb : b ∈ keys rs) (pos : ∀ x ∈ keys bs, 1 ≤ (get bs x).1) (never : ∀ t, InT bs t → (∀ x ∈ keys bs, x ∈ keys t) → ¬ onB rs t (a, b)) {u : Tm} (hu : InT bs u) (au : mn rs u (.done a) ≤ mn rs u (.start b)) (ku : ∀ x ∈ keys bs, x ∈ keys u) :
    ∀ (n : Nat) (t : Tm), dist1 t u (keys bs) = n → InT bs t → (∀ x ∈ keys bs, x ∈ keys t) → ¬ mn rs t (.done b) ≤ mn rs t (.start a)
  | n, t, hd, ht, kt => by
    intro hB
    have hnd : (keys bs).Nodup := hp.nodup_iff.mpr B.nd
    have durS : ∀ (t : Tm), InT bs t → ∀ x ∈ keys rs, mn rs t (.start x) + 1 ≤ mn rs t (.done x) := fun t ht x hx => by
      have h1 := pos x (hp.symm.subset hx)
      have h2 := (ht x (hp.symm.subset hx)).1
      show mn rs t (.start x) + 1 ≤ mn rs t (.start x) + get t x
      omega
    cases n with
    | zero =>
      have e := dist_zero hd
      have em : ∀ m : Mo, m.ok (keys rs) → mn rs t m = mn rs u m := fun m hm => by
        rw [mn_eq, mn_eq]
        congr 2
        refine List.map_congr_left fun y hy => ?_
        have hy2 := way_mem B.acy (Mo.ok_anc hm) y hy
        rw [keys_anc] at hy2
        exact e y (hp.symm.subset hy2)
      rw [em (.done b) hb, em (.start a) ha] at hB
      have h1 := durS u hu a ha
      have h2 := durS u hu b hb
      omega
    | succ n =>
      obtain ⟨x, hx, hne⟩ := dist_pos (t := t) (u := u) (ks := keys bs) (by omega)
      have hbt := ht x hx
      have hbu := hu x hx
      obtain ⟨d, hdd, hd1⟩ : ∃ d : Int, (d = 1 ∨ d = -1) ∧ (get t x + d - get u x).natAbs + 1 = (get t x - get u x).natAbs := by
        rcases Int.lt_or_gt_of_ne hne with h | h
        · exact ⟨1, .inl rfl, by omega⟩
        · exact ⟨-1, .inr rfl, by omega⟩
      have hs := dist_step (u := u) hd1 hnd kt hx
      have kt2 : ∀ y ∈ keys bs, y ∈ keys (setT t x (get t x + d)) := fun y hy => by rw [keys_setT]; exact kt y hy
      have it : InT bs (setT t x (get t x + d)) := fun y hy => by
        rw [get_setT (kt y hy)]
        by_cases z : y = x
        · rw [if_pos z, z]
          rcases hdd with rfl | rfl <;> omega
        · rw [if_neg z]
          exact ht y hy
      have nB := between B hp ha hb pos never hu au ku n _ (by omega) it kt2
      have nev := never _ it kt2
      unfold onB at nev
      dsimp only at nev
      have g := mn_set B (t := t) (x := x) (d := d) (fun y hy => kt y (hp.symm.subset hy)) (m := .done b) hb
      have g2 := mn_set B (t := t) (x := x) (d := d) (fun y hy => kt y (hp.symm.subset hy)) (m := .start a) ha
      have d1 := durS _ it a ha
      have d2 := durS _ it b hb
      split at g <;> split at g2 <;> rcases hdd with rfl | rfl <;> omega
end DL
namespace DL.SK
open PySem PySem.Spec PyProof.Rows L2
variable [TabC]
section
variable {bs : Dis} {l : Anc} {rk : Str → Nat} {ws : List Wi} {os : List (Str × Str)} {ss : List (List Str)}
/-! ### rows of what is told -/
end
end DL.SK
namespace DL.SK
open PySem PySem.Spec PyProof.Rows L2
variable [TabC]
section
variable {bs : Dis} {l l' t : Anc} {rk rk' : Str → Nat} {ws : List Wi} {os os' : List (Str × Str)} {ss : List (List Str)} {looks : List Str}
/-! ### whole hangings that go on from what is told -/
/-! ### what there may be -/
end
end DL.SK
namespace DL.SK
open PySem PySem.Spec PyProof.Rows L2
variable [TabC]
section
variable {bs : Dis} {l l' t : Anc} {rk rk' : Str → Nat} {ws : List Wi} {os os' : List (Str × Str)} {ss : List (List Str)} {looks : List Str}
/-! ### an open pair -/
end
end DL.SK
namespace DL.SK
open PySem PySem.Spec PyProof.Rows L2
variable [TabC]
/-! ### pairs without an order -/
section
variable {bs : Dis} {l l' t : Anc} {rk rk' : Str → Nat} {ws : List Wi} {os os' : List (Str × Str)} {ss : List (List Str)} {looks : List Str} {U : List (Str × Str)}
/-! ### what a dish hangs on, one after the other -/
end
end DL.SK
namespace DL.SK
open PySem PySem.Spec PyProof.Rows L2
variable [TabC]
section
variable {bs : Dis} {l l' t : Anc} {rk rk' : Str → Nat} {ws : List Wi} {os os' : List (Str × Str)} {ss : List (List Str)} {looks : List Str} {U : List (Str × Str)}
end
end DL.SK
namespace DL.SK
open PySem PySem.Spec PyProof.Rows L2
variable [TabC]
section
variable {bs : Dis} {ws : List Wi} {ss : List (List Str)} {looks : List Str} {U : List (Str × Str)}
end
end DL.SK
namespace DL.SK
open PySem PySem.Spec PyProof.Rows L2
variable [TabC]
/-! ### the pairs at stations, each once -/
section
variable {ks : List Str} {ss : List (List Str)}
end
end DL.SK
namespace DL.SK
open PySem PySem.Spec PyProof.Rows L2
variable [TabC]
/-! ### all choices of orders -/
/-! ### all trees -/
end DL.SK
namespace DL.SK
open PySem PySem.Spec PyProof.Rows L2
variable [TabC]
/-! ### which are trees -/
/-! ### the law's trees -/
end DL.SK
namespace DL.SK
open PySem PySem.Spec PyProof.Rows L2
variable [TabC]
section
variable {bs : Dis} {t : Anc} {rk : Str → Nat} {ws : List Wi} {os : List (Str × Str)} {ss : List (List Str)} {looks : List Str}
end
end DL.SK
namespace DL.SK
open PySem PySem.Spec PyProof.Rows L2
variable [TabC]
section
variable {bs : Dis} {t : Anc} {rk : Str → Nat} {ws : List Wi} {os : List (Str × Str)} {ss : List (List Str)} {looks : List Str} {rs : Row}
/-! ### the law's look at a book -/
end
end DL.SK
namespace DL.SK
open PySem PySem.Spec PyProof.Rows L2
variable [TabC]
end DL.SK
namespace DL.EV
open PySem PySem.Spec PyProof.Rows L2 DL.SK
variable [TabC]
/-! ### values -/
section
variable {b1 b2 : Dis} {ws1 ws2 : List Wi} {ss1 ss2 : List (List Str)}
end
end DL.EV
namespace DL.EV
open PySem PySem.Spec PyProof.Rows L2
variable [TabC]
section
variable {now m k : Int} {ml : D} {B : Dis} {ws : List Wi} {ss : List (List Str)} {R R' : Row} {S S' Dn Dn' : Tms} {x : Str} {ea : List D} {st : Addr × Addr}
end
end DL.EV
namespace DL
open PySem PySem.Spec PyProof.Rows L2
variable [TabC]
/-! ### books by their own operators -/
namespace BO
/-- dicts of texts side by side -/
theorem eqX_map {α : Type} [DecidableEq α] {f : α → D} (hf : ∀ a b, pyEq (f a) (f b) = decide (a = b)) {xs ys : List (Str × α)} (hx : ∀ p ∈ xs, okD (f p.2) = true) (hy : ∀ p ∈ ys, okD (f p.2) = true) :
    dEqX (.dic (mapD f xs)) (.dic (mapD f ys)) = some (.bl (xs.length == ys.length && xs.all fun p => decide (ys.lookup p.1 = some p.2))) := by
  have h1 : okK (mapD f xs) = true := List.all_eq_true.mpr fun q hq => by
    obtain ⟨p, hp, rfl⟩ := List.mem_map.mp hq
    exact hx p hp
  have h2 : okK (mapD f ys) = true := List.all_eq_true.mpr fun q hq => by
    obtain ⟨p, hp, rfl⟩ := List.mem_map.mp hq
    exact hy p hp
  have h3 : eqK (mapD f xs) (mapD f ys) = xs.all fun p => decide (ys.lookup p.1 = some p.2) := by
    unfold eqK mapD
    rw [List.all_map]
    congr 1
    funext p
    show (match lookK (mapD f ys) (.inr p.1) with | some d => pyEq (f p.2) d | none => false) = _
    rw [lookK_map]
    cases ys.lookup p.1 with
    | none => rfl
    | some b =>
      show pyEq (f p.2) (f b) = decide (some b = some p.2)
      rw [hf]
      by_cases e : p.2 = b
      · subst e; simp
      · have e2 : ¬ b = p.2 := fun z => e z.symm
        simp [e, e2]
  show (if (okK (mapD f xs) && okK (mapD f ys)) = true then some (D.bl ((mapD f xs).length == (mapD f ys).length && eqK (mapD f xs) (mapD f ys))) else none) = _
  rw [h1, h2, h3]
  unfold mapD
  rw [List.length_map, List.length_map]
  rfl
theorem same_look {α : Type} [DecidableEq α] {xs : List (Str × α)} (hn : (keys xs).Nodup) : (xs.length == xs.length && xs.all fun p => decide (xs.lookup p.1 = some p.2)) = true := by
  rw [Bool.and_eq_true]
  refine ⟨by simp, List.all_eq_true.mpr fun p hp => ?_⟩
  rw [look_of hn (show (p.1, p.2) ∈ xs from hp)]
  simp
theorem pyEq_s (a b : Str) : pyEq (.str a) (.str b) = decide (a = b) := by
  rw [pyEq_str]
  by_cases h : a = b <;> simp [h]
section
variable {rs : Row} {rk : Str → Nat} {l : Anc}
/-! & and | -/
end
end BO
end DL
namespace DL.EV
open PySem PySem.Spec PyProof.Rows L2
variable [TabC]
section
variable {now m k : Int} {ml : D} {B : Dis} {ws : List Wi} {ss : List (List Str)} {R R' : Row} {S S' Dn Dn' : Tms} {x : Str} {ea : List D} {st : Addr × Addr}
end
end DL.EV
namespace DL
open PySem PySem.Spec PyProof.Rows L2
variable [TabC]
end DL
namespace DL
open PySem PySem.Spec PyProof.Rows L2
variable [TabC]
/-! ### a pure method of what is told of the thing -/
section
variable {Z : Hid} {X : Cx} {E : XK} {O : List Nat} {o : Expr} {mo : EMV Z D} {pos apos : Pos} {m : Str} {k k' : Nat} {ps : List Str} {C : Str} {sp : FSp} {dds : List D}
end
section
variable {Z : Hid} {st : Z.S} {c c1 : Z.C} {s : Ev} {d : D} {C mn : Str} {f : FFn} {fs : List (Str × D)} {dds : List D} {mo : EMV Z D} {len : Nat}
end
end DL
namespace DL.K46
open PySem PySem.Spec PyProof.Rows L2
variable [TabC]
end DL.K46
namespace DL
open PySem PySem.Spec PyProof.Rows L2
variable [TabC]
end DL
namespace DL
open PySem PySem.Spec PyProof.Rows L2
variable [TabC]
end DL
namespace DL
open PySem PySem.Spec PyProof.Rows L2
variable [TabC]
end DL
namespace DL.TX
open PySem PySem.Spec PyProof.Rows L2
open TL (tl numL)
/-! ### numbers as texts -/
end DL.TX
namespace DL.TX
open PySem PySem.Spec PyProof.Rows L2
open TL (tl numL)
variable [TabC]
/-! ### texts by their signs -/
end DL.TX
namespace DL.TX
open PySem PySem.Spec PyProof.Rows L2
open TL (tl numL)
variable [TabC]
/-! ### the words of a line -/
def line (ws : List Str) : Str := Txt.join " " ws
end DL.TX
namespace DL.TX
open PySem PySem.Spec PyProof.Rows L2
open TL (tl numL)
variable [TabC]
/-! ### the lines of a meal, read -/
end DL.TX
namespace DL.TX
open PySem PySem.Spec PyProof.Rows L2
open TL (tl numL)
variable [TabC]
/-! ### a meal's lines, read one by one -/
end DL.TX
namespace DL.TX
open PySem PySem.Spec PyProof.Rows L2
open TL (tl numL)
variable [TabC]
end DL.TX
namespace DL.TX
open PySem PySem.Spec PyProof.Rows L2
open TL (tl numL)
variable [TabC]
/-! ### texts of lines -/
/-! ### what is written -/
end DL.TX
namespace DL.TX
open PySem PySem.Spec PyProof.Rows L2
open TL (tl numL)
variable [TabC]
end DL.TX
namespace DL.TX
open PySem PySem.Spec PyProof.Rows L2
open TL (tl numL)
variable [TabC]
/-! ### the law's own lines -/
end DL.TX
namespace DL.TX
open PySem PySem.Spec PyProof.Rows L2
open TL (tl numL)
variable [TabC]
/-! ### books as texts -/
end DL.TX
namespace DL.TX
open PySem PySem.Spec PyProof.Rows L2
open TL (tl numL)
open DL.BO (eqX_map same_look)
variable [TabC]
/-! sorted rows ascend -/
end DL.TX
namespace DL.K46
open PySem PySem.Spec PyProof.Rows L2 DL.EV
variable [TabC]
/-! ### the law's evening: its fields, and the same with another field -/
section
variable (m : LM)
end
/-! ### what the law wants -/
section
variable {m : LM} {x : Str}
end
/-! ### a pair of a minute and a name -/
end DL.K46
namespace DL.QS
open PySem PySem.Spec PyProof.Rows L2
variable [TabC]
/-! ### sorted by a total order -/
section
variable {α : Type} {R : α → α → Bool}
end
/-! ### those that nothing ahead of them blocks -/
section
variable {α : Type} {B : α → α → Bool} {c : α → Bool} {r : α → Nat}
end
/-! ### sets as sublists of one list -/
section
variable {α : Type} [DecidableEq α]
variable {L : List α} {P : List (List α)} {c : List α → Bool}
end
end DL.QS
namespace DL.K46
open PySem PySem.Spec PyProof.Rows L2 DL.EV
variable [TabC]
/-! ### what a minute brings, by the law -/
section
variable {m : LM} {x : Str} {t : Int}
/-! ### the order of pairs -/
end
end DL.K46
namespace DL.UR
open PySem PySem.Spec PyProof.Rows L2 DL.XP
variable [TabC]
/-! ### rounds, for any anchors that there are -/
structure Clo (l : Anc) : Prop where
  nd : (keys l).Nodup
  good : ∀ x ∈ keys l, Good x
  cl : ∀ x a, l.lookup x = some a → a = "clock" ∨ a ∈ keys l
  len : l.length ≤ 100
def nx1 (l : Anc) (x : Str) : Str := (l.lookup x).getD "clock"
def itN (l : Anc) : Nat → Str → Str
  | 0, x => x
  | k + 1, x => nx1 l (itN l k x)
theorem Clo.nx {l : Anc} (C : Clo l) (x : Str) : nx1 l x = "clock" ∨ nx1 l x ∈ keys l := by
  unfold nx1
  cases e : l.lookup x with
  | none => exact .inl rfl
  | some a => exact C.cl x a e
def itS (l : Anc) (x : Str) (k : Nat) : List Str := (List.range k).map fun i => itN l (i + 1) x
theorem its_snoc (l : Anc) (x : Str) (k : Nat) : itS l x (k + 1) = itS l x k ++ [itN l (k + 1) x] := by
  unfold itS
  rw [List.range_succ, List.map_append]
  rfl
theorem txs_snoc (xs : List Str) (x : Str) : txs (xs ++ [x]) = .lst (xs.map .str ++ [.str x]) := by
  unfold txs
  rw [List.map_append]
  rfl
theorem way_loop {l : Anc} (C : Clo l) {x : Str} {x1 : Option D} : ∀ (m fuel k : Nat), l.length ≤ k + m → m ≤ fuel → (itS l x k).Nodup → (∀ y ∈ itS l x k, y ∈ keys l) → ∃ k' h', fWhileN (fAndT (fBinT dNe (fVar 3) (fC (.str "clock"))) (fBinT dNotIn (fVar 3) (fVar 2))) b_way_up_1 (fuel + 1) [some (.dic (mapD .str l)), x1, some (txs (itS l x k)), some (.str (itN l (k + 1) x))] = .nx [some (.dic (mapD .str l)), x1, some (txs (itS l x k')), h'] ∧ (∀ y ∈ itS l x k', y ∈ keys l) ∧ (itS l x k').length ≤ l.length ∧ (itN l (k' + 1) x = "clock" ∨ itN l (k' + 1) x ∈ itS l x k') := by
  intro m
  induction m with
  | zero =>
    intro fuel k hk hf hn hm
    have hlen := EV.nd_lenS hn hm
    have hkl : (itS l x k).length = k := by unfold itS; rw [List.length_map, List.length_range]
    rw [List.length_map] at hlen
    rcases C.nx (itN l k x) with h | h
    · have h : itN l (k + 1) x = "clock" := h
      refine ⟨k, some (.str (itN l (k + 1) x)), ?_, hm, hlen, .inl h⟩
      rw [fWhileN, andTF (binTE (x := .str (itN l (k + 1) x)) (y := .str "clock") rfl rfl (by rw [h, dNe_str clock_ok clock_ok]; simp))]
      rfl
    · have h : itN l (k + 1) x ∈ keys l := h
      have hg := C.good _ h
      have hin : itN l (k + 1) x ∈ itS l x k := Decidable.byContradiction fun z => by
        have h2 : (itS l x k ++ [itN l (k + 1) x]).Nodup := List.nodup_append.mpr ⟨hn, by simp, fun a ha b hb e => by
          rw [List.mem_singleton.mp hb] at e
          exact z (e ▸ ha)⟩
        have := EV.nd_lenS h2 (L := keys l) fun y hy => by
          rcases List.mem_append.mp hy with q | q
          · exact hm y q
          · rw [List.mem_singleton.mp q]; exact h
        rw [List.length_append, List.length_singleton, List.length_map] at this
        omega
      refine ⟨k, some (.str (itN l (k + 1) x)), ?_, hm, hlen, .inr hin⟩
      rw [fWhileN, andTT (binTE (x := .str (itN l (k + 1) x)) (y := .str "clock") rfl rfl (by rw [dNe_str hg.ok clock_ok, beq_eq_false_iff_ne.mpr hg.nc] <;> rfl)) (binTE (x := .str (itN l (k + 1) x)) (y := txs (itS l x k)) rfl rfl (by rw [dNotIn_strs hg.ok fun y hy => (C.good y (hm y hy)).ok, decide_eq_true hin] <;> rfl))]
      rfl
  | succ m ih =>
    intro fuel k hk hf hn hm
    have hlen := EV.nd_lenS hn hm
    rw [List.length_map] at hlen
    have hL := C.len
    rcases C.nx (itN l k x) with h | h
    · have h : itN l (k + 1) x = "clock" := h
      refine ⟨k, some (.str (itN l (k + 1) x)), ?_, hm, hlen, .inl h⟩
      rw [fWhileN, andTF (binTE (x := .str (itN l (k + 1) x)) (y := .str "clock") rfl rfl (by rw [h, dNe_str clock_ok clock_ok]; simp))]
      rfl
    · have h : itN l (k + 1) x ∈ keys l := h
      have hg := C.good _ h
      have tc : fBinT dNe (fVar 3) (fC (.str "clock")) [some (.dic (mapD .str l)), x1, some (txs (itS l x k)), some (.str (itN l (k + 1) x))] = .ok true := binTE (x := .str (itN l (k + 1) x)) (y := .str "clock") rfl rfl (by rw [dNe_str hg.ok clock_ok, beq_eq_false_iff_ne.mpr hg.nc] <;> rfl)
      by_cases hin : itN l (k + 1) x ∈ itS l x k
      · refine ⟨k, some (.str (itN l (k + 1) x)), ?_, hm, hlen, .inr hin⟩
        rw [fWhileN, andTT tc (binTE (x := .str (itN l (k + 1) x)) (y := txs (itS l x k)) rfl rfl (by rw [dNotIn_strs hg.ok fun y hy => (C.good y (hm y hy)).ok, decide_eq_true hin] <;> rfl))]
        rfl
      · obtain ⟨fu, rfl⟩ : ∃ fu, fuel = fu + 1 := ⟨fuel - 1, by omega⟩
        have hn2 : (itS l x (k + 1)).Nodup := by
          rw [its_snoc]
          exact List.nodup_append.mpr ⟨hn, by simp, fun a ha b hb e => by
            rw [List.mem_singleton.mp hb] at e
            exact hin (e ▸ ha)⟩
        have hm2 : ∀ y ∈ itS l x (k + 1), y ∈ keys l := fun y hy => by
          rw [its_snoc] at hy
          rcases List.mem_append.mp hy with q | q
          · exact hm y q
          · rw [List.mem_singleton.mp q]; exact h
        obtain ⟨k', h', e, hm', hl', hs'⟩ := ih fu (k + 1) (by omega) (by omega) hn2 hm2
        refine ⟨k', h', ?_, hm', hl', hs'⟩
        rw [fWhileN, andTT tc (binTE (x := .str (itN l (k + 1) x)) (y := txs (itS l x k)) rfl rfl (by rw [dNotIn_strs hg.ok fun y hy => (C.good y (hm y hy)).ok, decide_eq_false hin] <;> rfl))]
        have b1 : b_way_up_1 [some (.dic (mapD .str l)), x1, some (txs (itS l x k)), some (.str (itN l (k + 1) x))] = .nx [some (.dic (mapD .str l)), x1, some (txs (itS l x (k + 1))), some (.str (itN l (k + 1 + 1) x))] := by
          refine seqN (appE (ds := (itS l x k).map .str) rfl rfl (by rw [List.length_map]; exact lim_of (by omega))) ((setE (dgetE rfl rfl rfl rfl)).trans ?_)
          rw [lookK_map, its_snoc, txs_snoc]
          show SO.nx [some (.dic (mapD .str l)), x1, some (.lst ((itS l x k).map .str ++ [.str (itN l (k + 1) x)])), some (((l.lookup (itN l (k + 1) x)).map D.str).getD (.str "clock"))] = SO.nx [some (.dic (mapD .str l)), x1, some (.lst ((itS l x k).map .str ++ [.str (itN l (k + 1) x)])), some (.str ((l.lookup (itN l (k + 1) x)).getD "clock"))]
          cases l.lookup (itN l (k + 1) x) <;> rfl
        show (match b_way_up_1 _ with | .nx s2 => fWhileN _ _ (fu + 1) s2 | .ct s2 => fWhileN _ _ (fu + 1) s2 | .bk s2 => .nx s2 | o => o) = _
        rw [b1]
        exact e
theorem v_way_any {l : Anc} (C : Clo l) {x : Str} : ∃ k, f_way_up [.dic (mapD .str l), .str x] = .ok (txs (itS l x k)) ∧ (∀ y ∈ itS l x k, y ∈ keys l) ∧ k ≤ l.length ∧ (itN l (k + 1) x = "clock" ∨ itN l (k + 1) x ∈ itS l x k) := by
  have hL := C.len
  obtain ⟨k, h', e, hm, hl, hs⟩ := way_loop C (x := x) (x1 := some (.str x)) l.length 999999 0 (by omega) (by omega) (by unfold itS; exact List.nodup_nil) (fun y hy => by unfold itS at hy; cases hy)
  refine ⟨k, runB_rt (seqN (setFE (d := .lst []) (show 2 < 4 by decide) rfl) (seqN ((setE (dgetE (kk := .inr x) rfl rfl rfl rfl)).trans ?_) (seqN (s' := [some (.dic (mapD .str l)), some (.str x), some (txs (itS l x k)), h']) e (retE rfl)))), hm, ?_, hs⟩
  · rw [lookK_map]
    show SO.nx [some (.dic (mapD .str l)), some (.str x), some (.lst []), some (((l.lookup x).map D.str).getD (.str "clock"))] = SO.nx [some (.dic (mapD .str l)), some (.str x), some (.lst []), some (.str ((l.lookup x).getD "clock"))]
    cases l.lookup x <;> rfl
  · have hkl : (itS l x k).length = k := by unfold itS; rw [List.length_map, List.length_range]
    omega
theorem idx_last {pre : List Str} {x : Str} : dIdx (txs (pre ++ [x])) (.int (-1)) = some (.str x) := by
  show L2.atI ((pre ++ [x]).map D.str) (-1) = _
  unfold L2.atI ixN
  have hl : ((pre ++ [x]).map D.str).length = pre.length + 1 := by rw [List.length_map, List.length_append, List.length_singleton]
  rw [hl, if_neg (by omega), if_pos (by omega)]
  show ((pre ++ [x]).map D.str)[((-1 : Int) + ((pre.length + 1 : Nat) : Int)).toNat]? = _
  rw [show ((-1 : Int) + ((pre.length + 1 : Nat) : Int)).toNat = pre.length by omega, List.getElem?_map, List.getElem?_append_right (Nat.le_refl _), Nat.sub_self]
  rfl
/-- the dishes from one on, so many -/
def itR (l : Anc) (x : Str) (k : Nat) : List Str := (List.range k).map fun i => itN l i x
theorem itr_snoc (l : Anc) (x : Str) (k : Nat) : itR l x (k + 1) = itR l x k ++ [itN l k x] := by
  unfold itR
  rw [List.range_succ, List.map_append]
  rfl
end DL.UR
namespace DL.UR
open PySem PySem.Spec PyProof.Rows L2 DL.XP
variable [TabC]
/-! ### the first round, by the program and by the law -/
section
variable {l : Anc} {x : Str}
def perN (l : Anc) (x : Str) : Option Nat := (List.range l.length).find? fun i => decide (itN l (i + 1) x = x)
def rndAt (l : Anc) (x : Str) : Option (List Str) := (perN l x).map fun i => itR l x (i + 1)
def rnd (l : Anc) : Option (List Str) := (rise (keys l)).findSome? (rndAt l)
theorem clock_look (C : Clo l) : l.lookup ("clock" : Str) = none := by
  cases e : l.lookup ("clock" : Str) with
  | none => rfl
  | some a => exact ((C.good _ (List.mem_map.mpr ⟨_, look_some e, rfl⟩)).nc rfl).elim
theorem nx_clock (C : Clo l) : nx1 l "clock" = "clock" := by unfold nx1; rw [clock_look C]; rfl
theorem it_clock (C : Clo l) {a : Nat} (h : itN l a x = "clock") : ∀ n, itN l (a + n) x = "clock"
  | 0 => h
  | n + 1 => by
    show nx1 l (itN l (a + n) x) = _
    rw [it_clock C h n, nx_clock C]
theorem it_in (C : Clo l) (hx : x ∈ keys l) : ∀ n, itN l n x = "clock" ∨ itN l n x ∈ keys l
  | 0 => .inr hx
  | n + 1 => C.nx _
theorem per_iff : (perN l x).isSome = true ↔ ∃ i, i < l.length ∧ itN l (i + 1) x = x := by
  unfold perN
  rw [List.find?_isSome]
  simp only [List.mem_range, decide_eq_true_eq]
theorem way_in (C : Clo l) (hx : x ∈ keys l) {k : Nat} (hk : k ≤ l.length) (hs : itN l (k + 1) x = "clock" ∨ itN l (k + 1) x ∈ itS l x k) : x ∈ itS l x k ↔ (perN l x).isSome = true := by
  rw [per_iff]
  constructor
  · intro h
    obtain ⟨i, hi, e⟩ := List.mem_map.mp h
    rw [List.mem_range] at hi
    exact ⟨i, by omega, e⟩
  · rintro ⟨i, hi, e⟩
    have inS : ∀ a, a < k → itN l (a + 1) x ∈ itS l x k := fun a ha => List.mem_map.mpr ⟨a, List.mem_range.mpr ha, rfl⟩
    have stay : ∀ n, itN l (k + 1 + n) x = "clock" ∨ itN l (k + 1 + n) x ∈ itS l x k := by
      intro n
      induction n with
      | zero => exact hs
      | succ n ih =>
        show nx1 l (itN l (k + 1 + n) x) = "clock" ∨ nx1 l (itN l (k + 1 + n) x) ∈ itS l x k
        rcases ih with h | h
        · rw [h, nx_clock C]; exact .inl rfl
        · obtain ⟨a, ha, ea⟩ := List.mem_map.mp h
          rw [List.mem_range] at ha
          rw [← ea]
          show itN l (a + 1 + 1) x = "clock" ∨ itN l (a + 1 + 1) x ∈ itS l x k
          by_cases z : a + 1 < k
          · exact .inr (inS _ z)
          · rw [show a + 1 = k by omega]
            exact hs
    by_cases z : i < k
    · rw [← e]
      have := inS i z
      rwa [e] at this ⊢
    · have := stay (i - k)
      rw [show k + 1 + (i - k) = i + 1 by omega, e] at this
      exact this.resolve_left (C.good x hx).nc
theorem cyc_in (C : Clo l) (hx : x ∈ keys l) {i : Nat} (e : itN l (i + 1) x = x) : ∀ j, j ≤ i + 1 → itN l j x ∈ keys l := fun j hj => by
  refine (it_in C hx j).resolve_left fun z => ?_
  have := it_clock C z (i + 1 - j)
  rw [show j + (i + 1 - j) = i + 1 by omega, e] at this
  exact (C.good x hx).nc this
def RoundE (ys : List Str) : XD := ("Round", [("names", txs ys)])
theorem forL_cons {g : FG} {b : FS} {d : D} {ds : List D} {s s1 : Ev} (h : g d s = some s1) : fForL g b (d :: ds) s = (match b s1 with | .nx s2 => fForL g b ds s2 | .ct s2 => fForL g b ds s2 | .bk s2 => .nx s2 | o => o) := by
  rw [fForL, h]
  rfl
/-! ### the law's look -/
theorem itr_len (n : Nat) : (itR l x n).length = n := by unfold itR; rw [List.length_map, List.length_range]
end
end DL.UR
namespace DL.K07
open PySem PySem.Spec PyProof.Rows L2 DL.XP DL.UR
variable [TabC]
theorem mkey_s (x : Str) : mkey (.str x) = some (NestedKey.text x) := by
  show (if (NestedKey.text x).depth ≤ 8 then some (NestedKey.text x) else none) = _
  rw [if_pos (by simp [NestedKey.depth])]
theorem lookM_map {f : Str → D} : ∀ (l : Anc) (y : Str), lookM (mixD (mapD f l)) (NestedKey.text y) = (l.lookup y).map f
  | [], _ => rfl
  | (x, a) :: l, y => by
    show ((((keyM (.inr x), f a) :: mixD (mapD f l)).find? fun p => decide (nkey p.1 = some (NestedKey.text y))).map (·.2)) = _
    rw [List.find?_cons, List.lookup_cons]
    by_cases h : x = y
    · subst h
      have e : decide (nkey (keyM (.inr x)) = some (NestedKey.text x)) = true := decide_eq_true rfl
      dsimp only
      rw [e]
      simp
    · have e : decide (nkey (keyM (.inr x)) = some (NestedKey.text y)) = false := decide_eq_false fun z => h (by
        have z : some (NestedKey.text x) = some (NestedKey.text y) := z
        cases z
        rfl)
      have e2 : (y == x) = false := beq_eq_false_iff_ne.mpr fun z => h z.symm
      dsimp only
      rw [e, e2]
      exact lookM_map l y
theorem dIdxM_map {f : Str → D} {l : Anc} {y : Str} : dIdxM (.dmx (mixD (mapD f l))) (.str y) = (l.lookup y).map f := by
  unfold dIdxM
  dsimp only
  rw [mkey_s]
  exact lookM_map l y
theorem keysM_map {f : Str → D} (l : Anc) : keysM (mixD (mapD f l)) = (keys l).map .str := by
  unfold keysM mixD mapD keys
  rw [List.map_map, List.map_map, List.map_map]
  rfl
theorem dListM_map {f : Str → D} {l : Anc} : dListM [.dmx (mixD (mapD f l))] = some (txs (keys l)) := by
  show some (D.lst (keysM (mixD (mapD f l)))) = _
  rw [keysM_map]
section
variable {l : Anc} {x : Str}
theorem way_loopM {l : Anc} (C : Clo l) {x : Str} {x1 : Option D} : ∀ (m fuel k : Nat), l.length ≤ k + m → m ≤ fuel → (itS l x k).Nodup → (∀ y ∈ itS l x k, y ∈ keys l) → ∃ k' h', fWhileN (fAndT (fBinT dNe (fVar 3) (fC (.str "clock"))) (fBinT dNotIn (fVar 3) (fVar 2))) b_way_up_1 (fuel + 1) [some (.dmx (mixD (mapD .str l))), x1, some (txs (itS l x k)), some (.str (itN l (k + 1) x))] = .nx [some (.dmx (mixD (mapD .str l))), x1, some (txs (itS l x k')), h'] ∧ (∀ y ∈ itS l x k', y ∈ keys l) ∧ (itS l x k').length ≤ l.length ∧ (itN l (k' + 1) x = "clock" ∨ itN l (k' + 1) x ∈ itS l x k') := by
  intro m
  induction m with
  | zero =>
    intro fuel k hk hf hn hm
    have hlen := EV.nd_lenS hn hm
    have hkl : (itS l x k).length = k := by unfold itS; rw [List.length_map, List.length_range]
    rw [List.length_map] at hlen
    rcases C.nx (itN l k x) with h | h
    · have h : itN l (k + 1) x = "clock" := h
      refine ⟨k, some (.str (itN l (k + 1) x)), ?_, hm, hlen, .inl h⟩
      rw [fWhileN, andTF (binTE (x := .str (itN l (k + 1) x)) (y := .str "clock") rfl rfl (by rw [h, dNe_str clock_ok clock_ok]; simp))]
      rfl
    · have h : itN l (k + 1) x ∈ keys l := h
      have hg := C.good _ h
      have hin : itN l (k + 1) x ∈ itS l x k := Decidable.byContradiction fun z => by
        have h2 : (itS l x k ++ [itN l (k + 1) x]).Nodup := List.nodup_append.mpr ⟨hn, by simp, fun a ha b hb e => by
          rw [List.mem_singleton.mp hb] at e
          exact z (e ▸ ha)⟩
        have := EV.nd_lenS h2 (L := keys l) fun y hy => by
          rcases List.mem_append.mp hy with q | q
          · exact hm y q
          · rw [List.mem_singleton.mp q]; exact h
        rw [List.length_append, List.length_singleton, List.length_map] at this
        omega
      refine ⟨k, some (.str (itN l (k + 1) x)), ?_, hm, hlen, .inr hin⟩
      rw [fWhileN, andTT (binTE (x := .str (itN l (k + 1) x)) (y := .str "clock") rfl rfl (by rw [dNe_str hg.ok clock_ok, beq_eq_false_iff_ne.mpr hg.nc] <;> rfl)) (binTE (x := .str (itN l (k + 1) x)) (y := txs (itS l x k)) rfl rfl (by rw [dNotIn_strs hg.ok fun y hy => (C.good y (hm y hy)).ok, decide_eq_true hin] <;> rfl))]
      rfl
  | succ m ih =>
    intro fuel k hk hf hn hm
    have hlen := EV.nd_lenS hn hm
    rw [List.length_map] at hlen
    have hL := C.len
    rcases C.nx (itN l k x) with h | h
    · have h : itN l (k + 1) x = "clock" := h
      refine ⟨k, some (.str (itN l (k + 1) x)), ?_, hm, hlen, .inl h⟩
      rw [fWhileN, andTF (binTE (x := .str (itN l (k + 1) x)) (y := .str "clock") rfl rfl (by rw [h, dNe_str clock_ok clock_ok]; simp))]
      rfl
    · have h : itN l (k + 1) x ∈ keys l := h
      have hg := C.good _ h
      have tc : fBinT dNe (fVar 3) (fC (.str "clock")) [some (.dmx (mixD (mapD .str l))), x1, some (txs (itS l x k)), some (.str (itN l (k + 1) x))] = .ok true := binTE (x := .str (itN l (k + 1) x)) (y := .str "clock") rfl rfl (by rw [dNe_str hg.ok clock_ok, beq_eq_false_iff_ne.mpr hg.nc] <;> rfl)
      by_cases hin : itN l (k + 1) x ∈ itS l x k
      · refine ⟨k, some (.str (itN l (k + 1) x)), ?_, hm, hlen, .inr hin⟩
        rw [fWhileN, andTT tc (binTE (x := .str (itN l (k + 1) x)) (y := txs (itS l x k)) rfl rfl (by rw [dNotIn_strs hg.ok fun y hy => (C.good y (hm y hy)).ok, decide_eq_true hin] <;> rfl))]
        rfl
      · obtain ⟨fu, rfl⟩ : ∃ fu, fuel = fu + 1 := ⟨fuel - 1, by omega⟩
        have hn2 : (itS l x (k + 1)).Nodup := by
          rw [its_snoc]
          exact List.nodup_append.mpr ⟨hn, by simp, fun a ha b hb e => by
            rw [List.mem_singleton.mp hb] at e
            exact hin (e ▸ ha)⟩
        have hm2 : ∀ y ∈ itS l x (k + 1), y ∈ keys l := fun y hy => by
          rw [its_snoc] at hy
          rcases List.mem_append.mp hy with q | q
          · exact hm y q
          · rw [List.mem_singleton.mp q]; exact h
        obtain ⟨k', h', e, hm', hl', hs'⟩ := ih fu (k + 1) (by omega) (by omega) hn2 hm2
        refine ⟨k', h', ?_, hm', hl', hs'⟩
        rw [fWhileN, andTT tc (binTE (x := .str (itN l (k + 1) x)) (y := txs (itS l x k)) rfl rfl (by rw [dNotIn_strs hg.ok fun y hy => (C.good y (hm y hy)).ok, decide_eq_false hin] <;> rfl))]
        have b1 : b_way_up_1 [some (.dmx (mixD (mapD .str l))), x1, some (txs (itS l x k)), some (.str (itN l (k + 1) x))] = .nx [some (.dmx (mixD (mapD .str l))), x1, some (txs (itS l x (k + 1))), some (.str (itN l (k + 1 + 1) x))] := by
          refine seqN (appE (ds := (itS l x k).map .str) rfl rfl (by rw [List.length_map]; exact lim_of (by omega))) ((setE (mget2E rfl rfl rfl (mkey_s _))).trans ?_)
          rw [lookM_map, its_snoc, txs_snoc]
          show SO.nx [some (.dmx (mixD (mapD .str l))), x1, some (.lst ((itS l x k).map .str ++ [.str (itN l (k + 1) x)])), some (((l.lookup (itN l (k + 1) x)).map D.str).getD (.str "clock"))] = SO.nx [some (.dmx (mixD (mapD .str l))), x1, some (.lst ((itS l x k).map .str ++ [.str (itN l (k + 1) x)])), some (.str ((l.lookup (itN l (k + 1) x)).getD "clock"))]
          cases l.lookup (itN l (k + 1) x) <;> rfl
        show (match b_way_up_1 _ with | .nx s2 => fWhileN _ _ (fu + 1) s2 | .ct s2 => fWhileN _ _ (fu + 1) s2 | .bk s2 => .nx s2 | o => o) = _
        rw [b1]
        exact e

theorem v_way_anyM {l : Anc} (C : Clo l) {x : Str} : ∃ k, f_way_up [.dmx (mixD (mapD .str l)), .str x] = .ok (txs (itS l x k)) ∧ (∀ y ∈ itS l x k, y ∈ keys l) ∧ k ≤ l.length ∧ (itN l (k + 1) x = "clock" ∨ itN l (k + 1) x ∈ itS l x k) := by
  have hL := C.len
  obtain ⟨k, h', e, hm, hl, hs⟩ := way_loopM C (x := x) (x1 := some (.str x)) l.length 999999 0 (by omega) (by omega) (by unfold itS; exact List.nodup_nil) (fun y hy => by unfold itS at hy; cases hy)
  refine ⟨k, runB_rt (seqN (setFE (d := .lst []) (show 2 < 4 by decide) rfl) (seqN ((setE (mget2E rfl rfl rfl (mkey_s x))).trans ?_) (seqN (s' := [some (.dmx (mixD (mapD .str l))), some (.str x), some (txs (itS l x k)), h']) e (retE rfl)))), hm, ?_, hs⟩
  · rw [lookM_map]
    show SO.nx [some (.dmx (mixD (mapD .str l))), some (.str x), some (.lst []), some (((l.lookup x).map D.str).getD (.str "clock"))] = SO.nx [some (.dmx (mixD (mapD .str l))), some (.str x), some (.lst []), some (.str ((l.lookup x).getD "clock"))]
    cases l.lookup x <;> rfl
  · have hkl : (itS l x k).length = k := by unfold itS; rw [List.length_map, List.length_range]
    omega

theorem round_loopM {l : Anc} (C : Clo l) {x : Str} (p : Nat) (hp : p ≤ 101) (hr : itN l p x = x) (hin : ∀ i, i ≤ p → itN l i x ∈ keys l) (hne : ∀ i, i + 1 < p → itN l (i + 1) x ≠ x) : ∀ (m fuel k : Nat), k + 1 + m = p → m ≤ fuel → fWhileN (fBinT dNe (fBin dIdxM (fVar 0) (fBin dIdx (fVar 2) (fNeg (fC (.int 1))))) (fVar 1)) b_round_from_1 (fuel + 1) [some (.dmx (mixD (mapD .str l))), some (.str x), some (txs (itR l x (k + 1)))] = .nx [some (.dmx (mixD (mapD .str l))), some (.str x), some (txs (itR l x p))] := by
  have gx := C.good x (by have := hin 0 (Nat.zero_le _); exact this)
  have ix : ∀ k, k < p → fBin dIdxM (fVar 0) (fBin dIdx (fVar 2) (fNeg (fC (.int 1)))) [some (.dmx (mixD (mapD .str l))), some (.str x), some (txs (itR l x (k + 1)))] = .ok (.str (itN l (k + 1) x)) := fun k hk => by
    refine binE (x := .dmx (mixD (mapD .str l))) (y := .str (itN l k x)) rfl (binE (x := txs (itR l x (k + 1))) (y := .int (-1)) rfl rfl (by rw [itr_snoc]; exact idx_last)) ?_
    rw [dIdxM_map]
    obtain ⟨a, ha⟩ := look_mem (hin k (by omega))
    show (l.lookup (itN l k x)).map D.str = some (.str ((l.lookup (itN l k x)).getD "clock"))
    rw [ha]
    rfl
  intro m
  induction m with
  | zero =>
    intro fuel k hk hf
    have e : itN l (k + 1) x = x := by rw [show k + 1 = p by omega]; exact hr
    rw [fWhileN, binTE (ix k (by omega)) rfl (by rw [e, dNe_str gx.ok gx.ok, beq_self_eq_true])]
    rw [show p = k + 1 by omega]
    rfl
  | succ m ih =>
    intro fuel k hk hf
    have hg := C.good _ (hin (k + 1) (by omega))
    have z : itN l (k + 1) x ≠ x := hne k (by omega)
    · obtain ⟨fu, rfl⟩ : ∃ fu, fuel = fu + 1 := ⟨fuel - 1, by omega⟩
      have e := ih fu (k + 1) (by omega) (by omega)
      rw [fWhileN, binTE (ix k (by omega)) rfl (by rw [dNe_str hg.ok gx.ok, beq_eq_false_iff_ne.mpr z])]
      have hlR : (itR l x (k + 1)).length = k + 1 := by unfold itR; rw [List.length_map, List.length_range]
      have b1 : b_round_from_1 [some (.dmx (mixD (mapD .str l))), some (.str x), some (txs (itR l x (k + 1)))] = .nx [some (.dmx (mixD (mapD .str l))), some (.str x), some (txs (itR l x (k + 1 + 1)))] := by
        have h := appE (i := 2) (ds := (itR l x (k + 1)).map .str) (s := [some (.dmx (mixD (mapD .str l))), some (.str x), some (txs (itR l x (k + 1)))]) rfl (ix k (by omega)) (by rw [List.length_map]; exact lim_of (by omega))
        rw [itr_snoc l x (k + 1), txs_snoc]
        exact h
      show (match b_round_from_1 _ with | .nx s2 => fWhileN _ _ (fu + 1) s2 | .ct s2 => fWhileN _ _ (fu + 1) s2 | .bk s2 => .nx s2 | o => o) = _
      rw [b1]
      exact e

theorem v_roundM (C : Clo l) (hx : x ∈ keys l) {i : Nat} (h : perN l x = some i) : f_round_from [.dmx (mixD (mapD .str l)), .str x] = .ok (txs (itR l x (i + 1))) := by
  have hL := C.len
  unfold perN at h
  rw [List.find?_range_eq_some] at h
  obtain ⟨e, hi, hm⟩ := h
  have e := of_decide_eq_true e
  rw [List.mem_range] at hi
  have h2 := round_loopM C (i + 1) (by omega) e (cyc_in C hx e) (fun j hj z => by
    have := hm j (by omega)
    rw [decide_eq_true z] at this
    cases this) i 999999 0 (by omega) (by omega)
  exact runB_rt (seqN (setFE (d := .lst [.str x]) (show 2 < 3 by decide) (lstE (consE rfl rfl) (Nat.le_of_ble_eq_true rfl))) (seqN (s' := [some (.dmx (mixD (mapD .str l))), some (.str x), some (txs (itR l x (i + 1)))]) h2 (retE rfl)))

theorem check_bodyM (C : Clo l) (hx : x ∈ keys l) : b_check_rounds_1 [some (.dmx (mixD (mapD .str l))), some (.str x)] = match rndAt l x with
    | some ys => .ex (RoundE ys)
    | none => .nx [some (.dmx (mixD (mapD .str l))), some (.str x)] := by
  obtain ⟨k, e, hm, hk, hs⟩ := v_way_anyM C (x := x)
  have hin := UR.way_in C hx hk hs
  have t : fBinT dIn (fVar 1) (fCall 2 f_way_up [] (fCons (fVar 0) (fCons (fVar 1) fNil))) [some (.dmx (mixD (mapD .str l))), some (.str x)] = .ok (decide (x ∈ itS l x k)) := binTE (x := .str x) rfl (callE (ds := [.dmx (mixD (mapD .str l)), .str x]) rfl rfl e) (dIn_strs (C.good x hx).ok fun z hz => (C.good z (hm z hz)).ok)
  unfold rndAt
  cases hp : perN l x with
  | none =>
    rw [decide_eq_false (by rw [hin, hp]; decide)] at t
    exact ifsF t rfl
  | some i =>
    rw [decide_eq_true (by rw [hin, hp]; rfl)] at t
    exact ifsT t (raiseE (ds := [txs (itR l x (i + 1))]) (consE (callE (ds := [.dmx (mixD (mapD .str l)), .str x]) rfl rfl (v_roundM C hx hp)) rfl) rfl)

theorem check_loopM (C : Clo l) : ∀ (L : List Str) (x1 : Option D), (∀ x ∈ L, x ∈ keys l) → ∃ y1, fForL (fgNm 1) b_check_rounds_1 (L.map .str) [some (.dmx (mixD (mapD .str l))), x1] = match L.findSome? (rndAt l) with
    | some ys => .ex (RoundE ys)
    | none => .nx [some (.dmx (mixD (mapD .str l))), y1]
  | [], x1, _ => ⟨x1, rfl⟩
  | x :: L, x1, h => by
    obtain ⟨y1, e⟩ := check_loopM C L (some (.str x)) fun y hy => h y (List.mem_cons_of_mem _ hy)
    refine ⟨y1, ?_⟩
    rw [List.map_cons, UR.forL_cons (s1 := [some (.dmx (mixD (mapD .str l))), some (.str x)]) rfl, check_bodyM C (h x List.mem_cons_self), List.findSome?_cons]
    cases rndAt l x with
    | some ys => rfl
    | none => exact e

theorem v_roundsM (C : Clo l) : f_check_rounds [.dmx (mixD (mapD .str l))] = match rnd l with
    | some ys => .ex (RoundE ys)
    | none => .ok .non := by
  have hL := C.len
  have hi : fIter (fCall 1 f_rising [] (fCons (fBlt dListM (fCons (fVar 0) fNil)) fNil)) [some (.dmx (mixD (mapD .str l))), none] = .ok ((rise (keys l)).map .str) := iterE (callE (ds := [txs (keys l)]) (consE (bltE rfl (dListM_map)) rfl) rfl (v_rising (by rw [List.length_map]; omega))) rfl
  obtain ⟨y1, e⟩ := check_loopM C (rise (keys l)) none fun x hx => mem_rise.mp hx
  unfold rnd
  cases h : (rise (keys l)).findSome? (rndAt l) with
  | some ys => rw [h] at e; exact runB_ex (forE hi e)
  | none => rw [h] at e; exact runB_nx (forE hi e)

end
end DL.K07
namespace DL
open PySem PySem.Spec PyProof.Rows L2
variable [TabC]
end DL
namespace DL
open PySem PySem.Spec PyProof.Rows L2
variable [TabC]
end DL
namespace DL.K22
open PySem PySem.Spec PyProof.Rows L2
variable [TabC]
end DL.K22
namespace DL
open PySem PySem.Spec PyProof.Rows L2
variable [TabC]
end DL
namespace DL.K22
open PySem PySem.Spec PyProof.Rows L2
variable [TabC]
section
variable {bs : Dis} {l : Anc} {rk : Str → Nat} {ws : List Wi} {os : List (Str × Str)} {ss : List (List Str)}
end
end DL.K22
namespace DL.K17
open PySem PySem.Spec PyProof.Rows L2
variable [TabC]
end DL.K17
namespace DL.K17
open PySem PySem.Spec PyProof.Rows L2
variable [TabC]
/-! ### the rows that times must keep -/
/-! ### the rows and the minutes -/
variable {bs : Dis} {rs : Row} {rk : Str → Nat}
/-! ### what times_with answers -/
/-! ### loose wishes -/
end DL.K17
namespace DL.SK
open PySem PySem.Spec PyProof.Rows L2
variable [TabC]
/-! ### all parts, in order -/
section
variable {ns : List Str}
end
end DL.SK
namespace DL.SK
open PySem PySem.Spec PyProof.Rows L2
variable [TabC]
section
variable {xs : List Str}
/-! ### those that have no lesser one as a part -/
end
section
variable {bs : Dis} {ws : List Wi} {ss : List (List Str)}
end
end DL.SK
namespace DL
open PySem PySem.Spec PyProof.Rows L2
variable [TabC]
end DL
namespace DL
open PySem PySem.Spec PyProof.Rows L2
variable [TabC]
/-! ### rows that go round, looked at -/
section
variable {bs : Dis} {l : Anc} {rk : Str → Nat} {ws : List Wi} {os : List (Str × Str)} {ss : List (List Str)} {oe : D}
end
end DL
namespace DL.SK
open PySem PySem.Spec PyProof.Rows L2
variable [TabC]
section
variable {bs : Dis} {l t : Anc} {rk : Str → Nat} {ws : List Wi} {os : List (Str × Str)} {ss : List (List Str)} {looks : List Str}
/-! ### the words of what is told -/
end
end DL.SK
namespace DL.SK
open PySem PySem.Spec PyProof.Rows L2
variable [TabC]
/-! ### rows, or Nones, that go round -/
end DL.SK
namespace DL.SK
open PySem PySem.Spec PyProof.Rows L2
variable [TabC]
section
variable {bs : Dis} {l t : Anc} {rk : Str → Nat} {ws ws2 : List Wi} {os : List (Str × Str)} {ss ss2 : List (List Str)} {looks looks2 : List Str}
end
end DL.SK
namespace DL.SK
open PySem PySem.Spec PyProof.Rows L2
variable [TabC]
section
variable {bs : Dis} {l : Anc} {rk : Str → Nat} {ws ws2 : List Wi} {os : List (Str × Str)} {ss ss2 : List (List Str)} {looks looks2 : List Str}
end
end DL.SK
namespace DL.SK
open PySem PySem.Spec PyProof.Rows L2
variable [TabC]
section
variable {bs : Dis} {l : Anc} {rk : Str → Nat} {ws2 : List Wi} {os : List (Str × Str)} {ss2 : List (List Str)} {looks looks2 : List Str} {U2 : List (Str × Str)}
end
end DL.SK
namespace DL.SK
open PySem PySem.Spec PyProof.Rows L2
variable [TabC]
section
variable {bs : Dis} {ws : List Wi} {sts : List Sta}
end
end DL.SK
namespace DL.SK
open PySem PySem.Spec PyProof.Rows L2
variable [TabC]
section
variable {bs : Dis} {l : Anc} {rk : Str → Nat} {ws2 : List Wi} {os : List (Str × Str)} {ss2 : List (List Str)} {looks2 : List Str} {U2 : List (Str × Str)}
end
end DL.SK
namespace DL.SK
open PySem PySem.Spec PyProof.Rows L2
variable [TabC]
section
variable {bs : Dis} {ws ws2 : List Wi} {ss ss2 : List (List Str)} {looks looks2 : List Str} {U U2 : List (Str × Str)}
end
end DL.SK
namespace DL.SK
open PySem PySem.Spec PyProof.Rows L2
variable [TabC]
section
variable {bs : Dis} {ws ws2 : List Wi} {ss ss2 : List (List Str)} {looks looks2 : List Str} {U U2 : List (Str × Str)}
end
end DL.SK
namespace DL.SK
open PySem PySem.Spec PyProof.Rows L2
variable [TabC]
/-! ### dishes one behind the other, at once -/
section
variable {bs : Dis} {rs : Row} {rk : Str → Nat}
end
/-! ### such a chain -/
end DL.SK
namespace DL.SK
open PySem PySem.Spec PyProof.Rows L2
variable [TabC]
/-! ### a meal within a meal: the others take their least minutes -/
section
variable {B b1 : Dis} {ws ws1 : List Wi} {ss ss1 : List (List Str)} {s : List Str}
end
/-! ### two meals side by side -/
section
variable {B b1 b2 : Dis} {ws ws1 ws2 : List Wi} {ss ss1 ss2 : List (List Str)} {s s1 s2 : List Str}
end
end DL.SK
namespace DL.QS
open PySem PySem.Spec PyProof.Rows L2
variable [TabC]
/-! ### all sublists -/
section
variable {α : Type}
end
/-! ### numbers -/
section
variable {ns : List Nat}
end
end DL.QS
namespace DL.SK
open PySem PySem.Spec PyProof.Rows L2 DL.QS
variable [TabC]
/-! ### sets of names in order -/
/-! ### joins -/
section
variable {α β γ : Type}
end
section
variable {K : List Str} {p : Str → Bool} {c c1 c2 : List Str → Bool}
end
end DL.SK
namespace DL.TB
open PySem PySem.Spec PyProof.Rows L2 DL.SK
variable [TabC]
/-! ### times of bounds that may lack an end, in which some moments are as seen -/
abbrev Bo := Int × Option Int
theorem forME {p : Ev → Option D} {k : List (D × D) → List D} {g : FG} {f : FS} {s : Ev} {o : SO} {kvs : List (D × D)} (h : p s = some (.dmx kvs)) (h2 : fForL g f (k kvs) s = o) : fForM p k g f s = o := by
  unfold fForM
  rw [h]
  exact h2
/-! what was seen -/
abbrev Seen := List (Mo × Int)
end DL.TB
namespace DL.K07
open PySem PySem.Spec PyProof.Rows L2 DL.XP DL.UR
variable [TabC]
/-! ### the things that are drawn -/
def ODDV : List D := [.str "nobody", .str "", .non, .int 5, .lst [], .tup [.str "clock", .int 0], .bl true, .str "Clock"]
def ODDK : List D := [.str "clock", .str "", .str "A", .int 5, .non, .tup [.str "a"]]
def ALLV : List D := .str "clock" :: NAMES.map .str ++ ODDV
def ALLK : List D := NAMES.map .str ++ ODDK
def isN : D → Bool
  | .str x => NAMES.contains x
  | _ => false
def isC : D → Bool
  | .str x => x == "clock"
  | _ => false
def isS : D → Bool
  | .str _ => true
  | _ => false
def okB (k : Nat) (d : D) : Bool := (toPD d).canLay0 && decide ((toPD d).depth ≤ k)
theorem okB_ok {k : Nat} {d : D} (h : okB k d = true) : OkN k d := by
  unfold okB at h
  rw [Bool.and_eq_true, decide_eq_true_eq] at h
  exact ⟨h.1, h.2⟩
theorem v_ok : ∀ v ∈ ALLV, okB 3 v = true := by decide +kernel
theorem k_ok : ∀ k ∈ ALLK, okB 3 k = true := by decide +kernel
def nameIs (r : Res D) (b : Bool) : Bool := match r with
  | .ok (.bl c) => c == b
  | _ => false
theorem nameIs_eq {r : Res D} {b : Bool} (h : nameIs r b = true) : r = .ok (.bl b) := by
  unfold nameIs at h
  split at h
  · rw [eq_of_beq h]
  · cases h
theorem k_name : ∀ k ∈ ALLK, f_is_name [k] = .ok (.bl (isN k)) := fun k hk => nameIs_eq ((show ∀ k ∈ ALLK, nameIs (f_is_name [k]) (isN k) = true by decide +kernel) k hk)
theorem k_lname : ∀ k ∈ ALLK, f__law_is_name [k] = .ok (.bl (isN k)) := fun k hk => nameIs_eq ((show ∀ k ∈ ALLK, nameIs (f__law_is_name [k]) (isN k) = true by decide +kernel) k hk)
theorem k_key : ∀ k ∈ ALLK, (mkey k).isSome = true := by decide +kernel
theorem v_sym : ∀ v ∈ ALLV, ∀ k ∈ ALLK, pyEq v k = pyEq k v := by decide +kernel
theorem v_clk : ∀ v ∈ ALLV, pyEq v (.str "clock") = isC v := by decide +kernel
theorem v_non : ∀ v ∈ ALLV, isS v = false → ∀ k ∈ ALLK, isS k = true → pyEq k v = false := by decide +kernel
theorem n_is : ∀ k ∈ ALLK, isN k = true → ∃ x ∈ NAMES, k = .str x := fun k _ h => by
  cases k <;> first | cases h | exact ⟨_, List.contains_iff_mem.mp h, rfl⟩
theorem pyEq_str {d : D} {x : Str} : pyEq d (.str x) = true ↔ d = .str x := by
  cases d with
  | str y =>
    rw [BO.pyEq_s, decide_eq_true_eq]
    exact ⟨fun h => by rw [h], fun h => by cases h; rfl⟩
  | _ => exact ⟨fun h => by simp [pyEq, toPD, PyData.eqv] at h, fun h => by cases h⟩
theorem nkey_text {d : D} {x : Str} : nkey d = some (NestedKey.text x) ↔ d = .str x := by
  cases d with
  | str y => exact ⟨fun h => by
      have h : some (NestedKey.text y) = some (NestedKey.text x) := h
      cases h
      rfl, fun h => by cases h; rfl⟩
  | tup ds =>
    refine ⟨fun h => ?_, fun h => by cases h⟩
    have h : (nkeys ds).map NestedKey.tup = some (NestedKey.text x) := h
    cases e : nkeys ds with
    | none => rw [e] at h; cases h
    | some ks => rw [e] at h; cases h
  | _ => exact ⟨fun h => (by cases h), fun h => (by cases h)⟩
/-! ### what a value may hang on -/
/-- rows as they are drawn -/
structure RowsO (R : List (D × D)) : Prop where
  k : ∀ p ∈ R, p.1 ∈ ALLK
  v : ∀ p ∈ R, p.2 ∈ ALLV
  len : R.length ≤ 50
def anc0 (ks : List D) (v : D) : Bool := isC v || ks.any fun k => pyEq k v
theorem ok_lst {ds : List D} (h : ∀ d ∈ ds, okB 3 d = true) : okD (.lst ds) = true := (OkN.lst (k := 3) fun d hd => okB_ok (h d hd)).ok (by decide)
theorem dIn_any {v : D} {ds : List D} (hv : okB 3 v = true) (h : ∀ d ∈ ds, okB 3 d = true) : dIn v (.lst ds) = some (.bl (ds.any fun k => pyEq k v)) := by
  unfold dIn
  show ((if (okD v && okD (.lst ds)) = true then some (ds.any fun y => pyEq y v) else none).map D.bl) = _
  rw [(okB_ok hv).ok (by decide), ok_lst h]
  rfl
theorem v_anchor {R : List (D × D)} (O : RowsO R) {v : D} (hv : v ∈ ALLV) : f_is_anchor [v, .dmx R] = .ok (.bl (anc0 (keysM R) v)) := by
  have e1 : fBin dEq (fVar 0) (fC (.str "clock")) (startD N_is_anchor [v, .dmx R]) = .ok (.bl (isC v)) := binE (x := v) (y := .str "clock") rfl rfl (by rw [dEq_ok ((okB_ok (v_ok v hv)).ok (by decide)) (OkN.str (k := 3) clock_ok |>.ok (by decide)), v_clk v hv])
  have e2 : fBin dIn (fVar 0) (fBlt dListM (fCons (fVar 1) fNil)) (startD N_is_anchor [v, .dmx R]) = .ok (.bl ((keysM R).any fun k => pyEq k v)) := binE (x := v) (y := .lst (keysM R)) rfl (bltE (xs := [.dmx R]) rfl rfl) (dIn_any (v_ok v hv) fun d hd => by
    obtain ⟨p, hp, rfl⟩ := List.mem_map.mp hd
    exact k_ok _ (O.k p hp))
  refine runB_rt (retE ?_)
  unfold anc0
  cases h : isC v with
  | true => rw [h] at e1; exact orT e1
  | false => rw [h] at e1; exact orF e1 e2
end DL.K07
namespace DL.K07
open PySem PySem.Spec PyProof.Rows L2 DL.XP DL.UR
variable [TabC]
/-! ### hangings made: the first row that is none, then a round -/
def badP (ks : List D) (p : D × D) : Bool := !isN p.1 || !anc0 ks p.2
def BadRowE (d : D) : XD := ("BadRow", [("name", d)])
theorem or_not {t u : FM Bool} {s : Ev} {a b : Bool} (h1 : t s = .ok a) (h2 : u s = .ok b) : fOrT t u s = .ok (a || b) := by
  cases a with
  | true => exact orTT h1
  | false => exact orTF h1 h2
theorem ifB {t : FM Bool} {f g : FS} {s : Ev} {b : Bool} (h : t s = .ok b) : fIfS t f g s = if b = true then f s else g s := by
  cases b with
  | true => exact ifsT h rfl
  | false => exact ifsF h rfl
theorem hang_body {R : List (D × D)} (O : RowsO R) {slf : Option D} {p : D × D} (hp : p ∈ R) : b_Hanging___init___1 [slf, some (.dmx R), some p.1, some p.2] = if badP (keysM R) p = true then .ex (BadRowE p.1) else .nx [slf, some (.dmx R), some p.1, some p.2] := by
  have t := or_not (s := [slf, some (.dmx R), some p.1, some p.2]) (notTE (valE (callE (l := fCons (fVar 2) fNil) (ds := [p.1]) rfl rfl (k_name _ (O.k p hp))))) (notTE (valE (callE (l := fCons (fVar 3) (fCons (fVar 1) fNil)) (ds := [p.2, .dmx R]) rfl rfl (v_anchor O (O.v p hp)))))
  refine (ifB t).trans ?_
  unfold badP
  split
  · exact raiseE (ds := [p.1]) rfl rfl
  · rfl
theorem find_loop {g : FG} {b : FS} {S : Ev → Prop} {f : D × D → D} {bad : D × D → Bool} {x : D × D → SO} (hx : ∀ p s, x p ≠ .nx s) (hx2 : ∀ p s, x p ≠ .ct s) (hx3 : ∀ p s, x p ≠ .bk s) : ∀ (rs : List (D × D)) (s : Ev), S s → (∀ p ∈ rs, ∀ s, S s → ∃ s1, g (f p) s = some s1 ∧ (if bad p = true then b s1 = x p else ∃ s2, b s1 = .nx s2 ∧ S s2)) →
    match rs.find? bad with
    | some p => fForL g b (rs.map f) s = x p
    | none => ∃ s', fForL g b (rs.map f) s = .nx s' ∧ S s'
  | [], s, h, _ => ⟨s, rfl, h⟩
  | p :: rs, s, h, st => by
    obtain ⟨s1, e1, w⟩ := st p List.mem_cons_self s h
    rw [List.find?_cons, List.map_cons, UR.forL_cons e1]
    cases hb : bad p with
    | true =>
      rw [if_pos hb] at w
      rw [w]
      show (match x p with | .nx s2 => _ | .ct s2 => _ | .bk s2 => _ | o => o) = x p
      cases hxp : x p with
      | nx s => exact (hx p s hxp).elim
      | ct s => exact (hx2 p s hxp).elim
      | bk s => exact (hx3 p s hxp).elim
      | _ => rfl
    | false =>
      rw [if_neg (by rw [hb]; decide)] at w
      obtain ⟨s2, e2, h2⟩ := w
      rw [e2]
      exact find_loop hx hx2 hx3 rs s2 h2 fun q hq => st q (List.mem_cons_of_mem _ hq)
def txD : D → Str
  | .str x => x
  | _ => ""
def anl (R : List (D × D)) : Anc := R.map fun p => (txD p.1, txD p.2)
theorem anl_keys {R : List (D × D)} : keys (anl R) = R.map fun p => txD p.1 := by
  unfold anl keys
  rw [List.map_map]
  rfl
/-- where no row is bad -/
theorem no_bad {R : List (D × D)} (O : RowsO R) (hn : (R.map fun p => nkey p.1).Nodup) (h : R.find? (badP (keysM R)) = none) : R = mixD (mapD .str (anl R)) ∧ Clo (anl R) := by
  have hk : ∀ p ∈ R, ∃ x ∈ NAMES, p.1 = .str x := fun p hp => by
    have := List.find?_eq_none.mp h p hp
    unfold badP at this
    rw [Bool.or_eq_true, not_or] at this
    exact n_is _ (O.k p hp) (by simpa using this.1)
  have hv : ∀ p ∈ R, ∃ a : Str, p.2 = .str a ∧ (a = "clock" ∨ ∃ q ∈ R, q.1 = .str a) := fun p hp => by
    have := List.find?_eq_none.mp h p hp
    unfold badP at this
    rw [Bool.or_eq_true, not_or] at this
    have ha : anc0 (keysM R) p.2 = true := by simpa using this.2
    unfold anc0 at ha
    rw [Bool.or_eq_true] at ha
    rcases ha with ha | ha
    · unfold isC at ha
      split at ha
      · next x e => exact ⟨x, e, .inl (eq_of_beq ha)⟩
      · cases ha
    · obtain ⟨k, hkm, e⟩ := List.any_eq_true.mp ha
      obtain ⟨q, hq, rfl⟩ := List.mem_map.mp hkm
      obtain ⟨y, _, ey⟩ := hk q hq
      cases es : isS p.2 with
      | false =>
        rw [v_non _ (O.v p hp) es _ (O.k q hq) (by rw [ey]; rfl)] at e
        cases e
      | true =>
        unfold isS at es
        split at es
        · next a e2 =>
          rw [e2] at e
          exact ⟨a, e2, .inr ⟨q, hq, pyEq_str.mp e⟩⟩
        · cases es
  refine ⟨?_, ?_⟩
  · unfold mixD mapD anl
    rw [List.map_map, List.map_map]
    refine (List.map_id' R).symm.trans (List.map_congr_left fun p hp => ?_)
    obtain ⟨x, _, ex⟩ := hk p hp
    obtain ⟨a, ea, _⟩ := hv p hp
    obtain ⟨p1, p2⟩ := p
    subst ex ea
    rfl
  · have hkeys : (R.map fun p => nkey p.1) = (keys (anl R)).map fun x => some (NestedKey.text x) := by
      rw [anl_keys, List.map_map]
      refine List.map_congr_left fun p hp => ?_
      obtain ⟨x, _, ex⟩ := hk p hp
      rw [ex]
      show _ = some (NestedKey.text (txD p.1))
      rw [ex]
      rfl
    refine ⟨?_, fun x hx => ?_, fun x a e => ?_, by unfold anl; rw [List.length_map]; have := O.len; omega⟩
    · rw [hkeys] at hn
      exact List.Pairwise.of_map _ (fun a b h e => h (by rw [e])) hn
    · rw [anl_keys] at hx
      obtain ⟨p, hp, rfl⟩ := List.mem_map.mp hx
      obtain ⟨y, hy, ey⟩ := hk p hp
      rw [ey]
      exact names_good hy
    · have hm := look_some e
      unfold anl at hm
      obtain ⟨p, hp, ep⟩ := List.mem_map.mp hm
      cases ep
      obtain ⟨a, ea, ha⟩ := hv p hp
      rw [ea]
      rcases ha with ha | ⟨q, hq, eq⟩
      · exact .inl ha
      · refine .inr ?_
        rw [anl_keys]
        exact List.mem_map.mpr ⟨q, hq, by rw [eq]⟩
/-- a hanging asked of any rows -/
theorem v_hangO {R : List (D × D)} (O : RowsO R) (hn : (R.map fun p => nkey p.1).Nodup) : match R.find? (badP (keysM R)) with
    | some p => f_Hanging___init__ [.dmx R] = .ex (BadRowE p.1)
    | none => match rnd (anl R) with
      | some ys => f_Hanging___init__ [.dmx R] = .ex (RoundE ys)
      | none => ∃ d, f_Hanging___init__ [.dmx R] = .ok d ∧ isObj d = true := by
  have L := find_loop (g := fgTp (fgsCons (fgNm 2) (fgsCons (fgNm 3) fgsNil))) (b := b_Hanging___init___1) (S := fun s => ∃ x2 x3, s = [some (.obj "Hanging" []), some (.dmx R), x2, x3]) (f := fun p => .tup [p.1, p.2]) (bad := badP (keysM R)) (x := fun p => .ex (BadRowE p.1)) (fun _ _ z => nomatch z) (fun _ _ z => nomatch z) (fun _ _ z => nomatch z) R [some (.obj "Hanging" []), some (.dmx R), none, none] ⟨_, _, rfl⟩ (fun p hp s ⟨x2, x3, hs⟩ => by
    subst hs
    refine ⟨_, rfl, ?_⟩
    have hb := hang_body O (slf := some (.obj "Hanging" [])) hp
    split at hb
    · next z => rw [if_pos z]; exact hb
    · next z => rw [if_neg z]; exact ⟨_, hb, _, _, rfl⟩)
  cases hf : R.find? (badP (keysM R)) with
  | some p =>
    rw [hf] at L
    exact runI_ex (seqX (TB.forME (kvs := R) rfl L))
  | none =>
    rw [hf] at L
    obtain ⟨s', e, x2, x3, rfl⟩ := L
    obtain ⟨eR, C⟩ := no_bad O hn hf
    have hc := v_roundsM C
    rw [← eR] at hc
    show (match rnd (anl R) with | some ys => _ | none => _)
    cases hr : rnd (anl R) with
    | some ys =>
      rw [hr] at hc
      exact runI_ex (seqN (TB.forME (kvs := R) rfl e) (seqX (dropX (callE (l := fCons (fVar 1) fNil) (ds := [.dmx R]) rfl rfl hc))))
    | none =>
      rw [hr] at hc
      have hl := C.len
      have hd1 : dListM [.dmx R] = some (txs (keys (anl R))) := (by have := dListM_map (f := D.str) (l := anl R); rw [← eR] at this; exact this)
      have hi1 : ∀ d, dIdxM (.dmx R) (.str d) = ((anl R).lookup d).map D.str := fun d => (by have := dIdxM_map (f := D.str) (l := anl R) (y := d); rw [← eR] at this; exact this)
      have ed : fDc (fIter (fCall 1 f_rising [] (fCons (fBlt dListM (fCons (fVar 1) fNil)) fNil))) [2] (fgNm 2) fYes (fVar 2) (fBin dIdxM (fVar 1) (fVar 2)) [some (.obj "Hanging" []), some (.dmx R), x2, x3] = .ok (.dic (mapD .str (sortK (anl R)))) := by
        refine dcE (ds := (rise (keys (anl R))).map .str) (iterE (callE (ds := [txs (keys (anl R))]) (consE (bltE rfl hd1) rfl) rfl (v_rising (by rw [List.length_map]; omega))) rfl) (by rw [List.length_map, rise_len, List.length_map]; unfold LIM; omega) ?_
        refine dc_map D.str id (fun x => get (anl R) x) D.str (rise (keys (anl R))) [] (by rw [List.map_nil, List.nil_append, List.map_id]; exact (rise_perm _).nodup_iff.mpr C.nd) fun d hd => ⟨_, rfl, rfl, binE (x := .dmx R) rfl rfl (by rw [hi1, look_get (mem_rise.mp hd)]; rfl)⟩
      exact ⟨_, runI_nx (seqN (TB.forME (kvs := R) rfl e) (seqN (dropE (callE (l := fCons (fVar 1) fNil) (ds := [.dmx R]) rfl rfl hc)) (fldSE ed rfl (by decide)))) rfl, rfl⟩
/-! ### the law's look -/
theorem rise_go {a : List Str} {d0 : D} (hl : a.length ≤ 1000) : ∃ x2 x3, fForL (fgNm 2) b__law_rising_1 (a.map .str) [some d0, some (.lst []), none, none] = .nx [some d0, some (txs (rise a)), x2, x3] := by
  obtain ⟨s', e, x2, x3, rfl⟩ := for_acc (g := fgNm 2) (b := b__law_rising_1) D.str (fun acc s => ∃ x2 x3, s = [some d0, some (txs (rise acc)), x2, x3]) a (s := [some d0, some (.lst []), none, none]) ⟨_, _, rfl⟩ (fun acc d post s e ⟨x2, x3, hs⟩ => by
    subst hs
    have hn := len_pre e
    refine ⟨_, rfl, _, insE (k := ((rise acc).filter fun y => strLe y d).length) (ds := (rise acc).map .str) rfl (consE (bltE (consE (lcE (ds := (rise acc).map .str) rfl (by rw [List.length_map, rise_len]; unfold LIM; omega) (lc_filter (g := fgNm 3) (t := fBinT dLe (fVar 3) (fVar 2)) (e := fVar 3) D.str (fun y => strLe y d) D.str (rise acc) fun y hy => ⟨_, rfl, rfl, fun _ => rfl⟩)) rfl) (by show some (D.int _) = _; rw [List.length_map])) (consE rfl rfl)) (by rw [List.length_map, rise_len]; unfold LIM; omega) (by have := List.length_filter_le (fun y => strLe y d) (rise acc); rw [rise_len] at this; unfold LIM; omega), ?_⟩
    rw [ins_strs, rise_snoc]
    exact ⟨_, _, rfl⟩)
  exact ⟨x2, x3, e⟩
theorem v_lriseM {R : List (D × D)} {xs : List Str} (h : keysM R = xs.map .str) (hl : xs.length ≤ 1000) : f__law_rising [.dmx R] = .ok (txs (rise xs)) := by
  obtain ⟨x2, x3, e⟩ := rise_go (d0 := .dmx R) hl
  exact runB_rt (seqN (setFE (show 1 < 4 by decide) rfl) (seqN (TB.forME (kvs := R) rfl (by rw [h]; exact e)) (retE rfl)))
end DL.K07
namespace DL.K07
open PySem PySem.Spec PyProof.Rows L2 DL.XP DL.UR
variable [TabC]
/-! ### the law's look at rows -/
def hereB (R : List (D × D)) (v : D) : Bool := isS v && (isC v || R.any fun p => decide (nkey p.1 = nkey v))
def badL (R : List (D × D)) (bs : List D) (p : D × D) : Bool := !isN p.1 || (!hereB R p.2 || bs.any fun k => pyEq k p.1)
def optIs (r : Option D) (b : Bool) : Bool := match r with
  | some (.bl c) => c == b
  | _ => false
theorem optIs_eq {r : Option D} {b : Bool} (h : optIs r b = true) : r = some (.bl b) := by
  unfold optIs at h
  split at h
  · rw [eq_of_beq h]
  · cases h
theorem v_str : ∀ v ∈ ALLV, dIsi [v, .raw (.ty "str")] = some (.bl (isS v)) := fun v hv => optIs_eq ((show ∀ v ∈ ALLV, optIs (dIsi [v, .raw (.ty "str")]) (isS v) = true by decide +kernel) v hv)
theorem look_some? {R : List (D × D)} {k : MD.NK} : (lookM R k).isSome = R.any fun p => decide (nkey p.1 = some k) := by
  unfold lookM
  rw [Option.isSome_map, Bool.eq_iff_iff, List.find?_isSome, List.any_eq_true]
theorem look_atM {R : List (D × D)} (hn : (R.map fun p => nkey p.1).Nodup) {p : D × D} (hp : p ∈ R) {k : MD.NK} (hk : nkey p.1 = some k) : lookM R k = some p.2 := by
  unfold lookM
  induction R with
  | nil => cases hp
  | cons q R ih =>
    rw [List.map_cons, List.nodup_cons] at hn
    rw [List.find?_cons]
    rcases List.mem_cons.mp hp with e | hp
    · subst e
      rw [decide_eq_true hk]
      rfl
    · have : nkey q.1 ≠ some k := fun z => hn.1 (List.mem_map.mpr ⟨p, hp, by rw [hk, z]⟩)
      rw [decide_eq_false this]
      exact ih hn.2 hp
theorem idx_atM {R : List (D × D)} (O : RowsO R) (hn : (R.map fun p => nkey p.1).Nodup) {p : D × D} (hp : p ∈ R) : dIdxM (.dmx R) p.1 = some p.2 := by
  obtain ⟨k, hk⟩ := Option.isSome_iff_exists.mp (k_key _ (O.k p hp))
  unfold dIdxM
  dsimp only
  rw [hk]
  exact look_atM hn hp (mkey_of hk).1
theorem here_ev {R : List (D × D)} {s : Ev} {a : FM D} {v : D} (hv : v ∈ ALLV) (ha : a s = .ok v) (h0 : fVar 0 s = .ok (.dmx R)) : fAnd (fBlt dIsi (fCons a (fCons (fC (.raw (.ty "str"))) fNil))) (fOr (fBin dEq a (fC (.str "clock"))) (fBin dInM a (fVar 0))) s = .ok (.bl (hereB R v)) := by
  have e0 : fBlt dIsi (fCons a (fCons (fC (.raw (.ty "str"))) fNil)) s = .ok (.bl (isS v)) := bltE (consE ha (consE rfl rfl)) (v_str v hv)
  unfold hereB
  cases hs : isS v with
  | false => rw [hs] at e0; exact andF e0
  | true =>
    rw [hs] at e0
    refine andT e0 ?_
    have e1 : fBin dEq a (fC (.str "clock")) s = .ok (.bl (isC v)) := binE (x := v) (y := .str "clock") ha rfl (by rw [dEq_ok ((okB_ok (v_ok v hv)).ok (by decide)) (OkN.str (k := 3) clock_ok |>.ok (by decide)), v_clk v hv])
    rw [Bool.true_and]
    cases hc : isC v with
    | true => rw [hc] at e1; exact orT e1
    | false =>
      rw [hc] at e1
      refine orF e1 (binE (x := v) (y := .dmx R) ha h0 ?_)
      unfold isS at hs
      split at hs
      · next x =>
        unfold dInM
        show ((mkey (.str x)).map fun k => (lookM R k).isSome).map D.bl = _
        rw [mkey_s]
        show some (D.bl ((lookM R (NestedKey.text x)).isSome)) = _
        rw [look_some?]
        rfl
      · cases hs
theorem due_body {R : List (D × D)} (O : RowsO R) (hn : (R.map fun p => nkey p.1).Nodup) {bs : List D} (hb : ∀ d ∈ bs, d ∈ ALLK) {x3 x4 x5 : Option D} {p : D × D} (hp : p ∈ R) :
    b__law_due_1 [some (.dmx R), some (.lst bs), some p.1, x3, x4, x5] = if badL R bs p = true then .rt (.tup [.str "row", p.1]) else .nx [some (.dmx R), some (.lst bs), some p.1, some (.bl (hereB R p.2)), x4, x5] := by
  have e0 : fBin dIdxM (fVar 0) (fVar 2) [some (.dmx R), some (.lst bs), some p.1, x3, x4, x5] = .ok p.2 := binE (x := .dmx R) (y := p.1) rfl rfl (idx_atM O hn hp)
  refine seqN (setE (here_ev (O.v p hp) e0 rfl)) ?_
  have t := or_not (s := [some (.dmx R), some (.lst bs), some p.1, some (.bl (hereB R p.2)), x4, x5]) (notTE (valE (callE (l := fCons (fVar 2) fNil) (ds := [p.1]) rfl rfl (k_lname _ (O.k p hp))))) (or_not (notTE (valE (a := fVar 3) (k := hereB R p.2) rfl)) (binTE (a := fVar 2) (b := fVar 1) (x := p.1) (y := .lst bs) rfl rfl (dIn_any (k_ok _ (O.k p hp)) fun d hd => k_ok _ (hb d hd))))
  refine (ifB t).trans ?_
  unfold badL
  split
  · exact retE (tupE (ds := [.str "row", p.1]) rfl (Nat.le_of_ble_eq_true rfl))
  · rfl
/-! the walk from one on -/
section
variable {l : Anc} {x : Str}
theorem stayM (C : Clo l) {k : Nat} (hs : itN l (k + 1) x = "clock" ∨ itN l (k + 1) x ∈ itS l x k) : ∀ n, itN l (k + 1 + n) x = "clock" ∨ itN l (k + 1 + n) x ∈ itS l x k := by
  have inS : ∀ a, a < k → itN l (a + 1) x ∈ itS l x k := fun a ha => List.mem_map.mpr ⟨a, List.mem_range.mpr ha, rfl⟩
  intro n
  induction n with
  | zero => exact hs
  | succ n ih =>
    show nx1 l (itN l (k + 1 + n) x) = "clock" ∨ nx1 l (itN l (k + 1 + n) x) ∈ itS l x k
    rcases ih with h | h
    · rw [h, nx_clock C]; exact .inl rfl
    · obtain ⟨a, ha, ea⟩ := List.mem_map.mp h
      rw [List.mem_range] at ha
      rw [← ea]
      show itN l (a + 1 + 1) x = "clock" ∨ itN l (a + 1 + 1) x ∈ itS l x k
      by_cases z : a + 1 < k
      · exact .inr (inS _ z)
      · rw [show a + 1 = k by omega]
        exact hs
theorem per_long (C : Clo l) (hx : x ∈ keys l) (h : itN l (l.length + 1) x = x) : (perN l x).isSome = true := by
  obtain ⟨k, _, _, hk, hs⟩ := UR.v_way_any C (x := x)
  have := stayM C hs (l.length - k)
  rw [show k + 1 + (l.length - k) = l.length + 1 by omega, h] at this
  exact (UR.way_in C hx hk hs).mp (this.resolve_left (C.good x hx).nc)
def stopB (l : Anc) (x : Str) (k : Nat) : Prop := itN l (k + 1) x = "clock" ∨ itN l (k + 1) x = x
theorem due_loop (C : Clo l) (hx : x ∈ keys l) {B : D} : ∀ (ds : List D) (k : Nat) (x4 : Option D), (∀ j, j < k → ¬ stopB l x j) → k + ds.length ≤ l.length → ∃ k' y4, fForL (fgNm 4) b__law_due_2 ds [some (.dmx (mixD (mapD .str l))), some B, some (.str x), some (.str (itN l (k + 1) x)), x4, some (txs (itR l x (k + 1)))] = .nx [some (.dmx (mixD (mapD .str l))), some B, some (.str x), some (.str (itN l (k' + 1) x)), y4, some (txs (itR l x (k' + 1)))] ∧ (∀ j, j < k' → ¬ stopB l x j) ∧ (stopB l x k' ∨ k' = k + ds.length) ∧ (stopB l x k → k' = k)
  | [], k, x4, hj, hk => ⟨k, x4, rfl, hj, .inr rfl, fun _ => rfl⟩
  | d :: ds, k, x4, hj, hk => by
    have gx := C.good x hx
    have hl := C.len
    rw [List.length_cons] at hk
    by_cases st : stopB l x k
    · obtain ⟨k', y4, e, h1, h2, h3⟩ := due_loop C hx (B := B) ds k (some d) hj (by omega)
      have ek := h3 st
      refine ⟨k', y4, ?_, h1, .inl (by rw [ek]; exact st), fun _ => ek⟩
      rw [UR.forL_cons (s1 := [some (.dmx (mixD (mapD .str l))), some B, some (.str x), some (.str (itN l (k + 1) x)), some d, some (txs (itR l x (k + 1)))]) rfl]
      have b : b__law_due_2 [some (.dmx (mixD (mapD .str l))), some B, some (.str x), some (.str (itN l (k + 1) x)), some d, some (txs (itR l x (k + 1)))] = .nx [some (.dmx (mixD (mapD .str l))), some B, some (.str x), some (.str (itN l (k + 1) x)), some d, some (txs (itR l x (k + 1)))] := by
        rcases st with z | z
        · exact ifsF (andTF (binTE (x := .str (itN l (k + 1) x)) (y := .str "clock") rfl rfl (by rw [z, dNe_str clock_ok clock_ok]; rfl))) rfl
        · rw [z]
          exact ifsF (andTT (binTE (x := .str x) (y := .str "clock") rfl rfl (by rw [dNe_str gx.ok clock_ok, beq_eq_false_iff_ne.mpr gx.nc]; rfl)) (andTF (binTE (x := .str x) (y := .str x) rfl rfl (by rw [dNe_str gx.ok gx.ok, beq_self_eq_true]; rfl)))) rfl
      rw [b]
      exact e
    · have nc : itN l (k + 1) x ≠ "clock" := fun z => st (.inl z)
      have nx : itN l (k + 1) x ≠ x := fun z => st (.inr z)
      have hin : itN l (k + 1) x ∈ keys l := (C.nx (itN l k x)).resolve_left nc
      have hg := C.good _ hin
      obtain ⟨k', y4, e, h1, h2, h3⟩ := due_loop C hx (B := B) ds (k + 1) (some d) (fun j hj' => by
        by_cases z : j < k
        · exact hj j z
        · rw [show j = k by omega]; exact st) (by omega)
      refine ⟨k', y4, ?_, h1, h2.imp id (fun z => by rw [List.length_cons]; omega), fun z => (st z).elim⟩
      rw [UR.forL_cons (s1 := [some (.dmx (mixD (mapD .str l))), some B, some (.str x), some (.str (itN l (k + 1) x)), some d, some (txs (itR l x (k + 1)))]) rfl]
      have hlR : (itR l x (k + 1)).length = k + 1 := itr_len _
      have b : b__law_due_2 [some (.dmx (mixD (mapD .str l))), some B, some (.str x), some (.str (itN l (k + 1) x)), some d, some (txs (itR l x (k + 1)))] = .nx [some (.dmx (mixD (mapD .str l))), some B, some (.str x), some (.str (itN l (k + 1 + 1) x)), some d, some (txs (itR l x (k + 1 + 1)))] := by
        refine ifsT (andTT (binTE (x := .str (itN l (k + 1) x)) (y := .str "clock") rfl rfl (by rw [dNe_str hg.ok clock_ok, beq_eq_false_iff_ne.mpr nc]; rfl)) (andTT (binTE (x := .str (itN l (k + 1) x)) (y := .str x) rfl rfl (by rw [dNe_str hg.ok gx.ok, beq_eq_false_iff_ne.mpr nx]; rfl)) (binTE (x := .int ((itR l x (k + 1)).length : Nat)) (y := .int (l.length : Nat)) (bltE (xs := [txs (itR l x (k + 1))]) rfl (by show some (D.int _) = _; rw [List.length_map])) (bltE (xs := [.dmx (mixD (mapD .str l))]) rfl (by show some (D.int _) = _; unfold mixD mapD; rw [List.length_map, List.length_map])) (by show some (D.bl (decide ((((itR l x (k + 1)).length : Nat) : Int) ≤ ((l.length : Nat) : Int)))) = _; rw [decide_eq_true (by rw [hlR]; omega)])))) ?_
        rw [itr_snoc l x (k + 1), txs_snoc]
        exact parE (binE (x := txs (itR l x (k + 1))) (y := .lst [.str (itN l (k + 1) x)]) rfl (lstE (consE rfl rfl) (Nat.le_of_ble_eq_true rfl)) (by
          show (if _ then _ else _) = _
          rw [if_pos (by rw [List.length_map, hlR]; unfold LIM; simp; omega)])) (binE (x := .dmx (mixD (mapD .str l))) (y := .str (itN l (k + 1) x)) rfl rfl (by
          rw [dIdxM_map]
          obtain ⟨a, ha⟩ := look_mem hin
          show (l.lookup (itN l (k + 1) x)).map D.str = some (.str ((l.lookup (itN l (k + 1) x)).getD "clock"))
          rw [ha]
          rfl))
      rw [b]
      exact e
end
end DL.K07
namespace DL.K07
open PySem PySem.Spec PyProof.Rows L2 DL.XP DL.UR
variable [TabC]
section
variable {l : Anc} {x : Str}
def roundD (ys : List Str) : D := .tup [.str "round", txs ys]
theorem due_round (C : Clo l) (hx : x ∈ keys l) {B : D} {x3 x4 x5 : Option D} : ∃ y3 y4 y5, b__law_due_3 [some (.dmx (mixD (mapD .str l))), some B, some (.str x), x3, x4, x5] = match rndAt l x with
    | some ys => .rt (roundD ys)
    | none => .nx [some (.dmx (mixD (mapD .str l))), some B, some (.str x), y3, y4, y5] := by
  have gx := C.good x hx
  have hl := C.len
  have ln : (keysM (mixD (mapD D.str l))).length = l.length := by rw [keysM_map, List.length_map, List.length_map]
  obtain ⟨k', y4, e, h1, h2, h3⟩ := due_loop C hx (B := B) (keysM (mixD (mapD .str l))) 0 x4 (fun j hj => by omega) (by omega)
  rw [ln, Nat.zero_add] at h2
  have ep : fPar 5 3 (fLst (fCons (fVar 2) fNil)) (fBin dIdxM (fVar 0) (fVar 2)) [some (.dmx (mixD (mapD .str l))), some B, some (.str x), x3, x4, x5] = .nx [some (.dmx (mixD (mapD .str l))), some B, some (.str x), some (.str (itN l (0 + 1) x)), x4, some (txs (itR l x (0 + 1)))] := by
    refine parE (d := .lst [.str x]) (d' := .str (itN l (0 + 1) x)) (lstE (consE rfl rfl) (Nat.le_of_ble_eq_true rfl)) (binE (x := .dmx (mixD (mapD .str l))) (y := .str x) rfl rfl ?_)
    rw [dIdxM_map]
    obtain ⟨a, ha⟩ := look_mem hx
    show (l.lookup x).map D.str = some (.str ((l.lookup x).getD "clock"))
    rw [ha]
    rfl
  have hno : (itN l (k' + 1) x == x) = (perN l x).isSome ∧ ∀ i, perN l x = some i → k' = i := by
    cases hp : perN l x with
    | some i =>
      have hp' := hp
      unfold perN at hp
      rw [List.find?_range_eq_some] at hp
      obtain ⟨e1, hi, hm⟩ := hp
      have e1 := of_decide_eq_true e1
      rw [List.mem_range] at hi
      have hc := cyc_in C hx e1
      have hk : k' = i := by
        have a1 : k' ≤ i := by
          refine Nat.le_of_not_lt fun z => h1 i z (.inr e1)
        rcases Nat.lt_or_eq_of_le a1 with z | z
        · rcases h2 with h2 | h2
          · rcases h2 with h2 | h2
            · exact ((C.good _ (hc (k' + 1) (by omega))).nc h2).elim
            · have := hm k' z
              rw [decide_eq_true h2] at this
              cases this
          · omega
        · exact z
      refine ⟨?_, fun j hj => by cases hj; exact hk⟩
      rw [hk, e1, beq_self_eq_true]
      rfl
    | none =>
      refine ⟨?_, fun i hi => (by cases hi)⟩
      show _ = false
      refine beq_eq_false_iff_ne.mpr fun z => ?_
      have hn : ¬ (perN l x).isSome = true := by rw [hp]; decide
      by_cases hk : k' < l.length
      · exact hn (per_iff.mpr ⟨k', hk, z⟩)
      · rcases h2 with h2 | h2
        · have : k' = l.length := by
            by_cases q : k' = l.length
            · exact q
            · exfalso
              exact h1 l.length (by
                have : k' ≥ l.length := by omega
                omega) (.inr (by
                exfalso
                have hlt : l.length < k' := by omega
                obtain ⟨kk, _, _, hkk, hs⟩ := UR.v_way_any C (x := x)
                have st := stayM C hs (k' - kk)
                rw [show kk + 1 + (k' - kk) = k' + 1 by omega, z] at st
                exact hn ((UR.way_in C hx hkk hs).mp (st.resolve_left gx.nc))))
          rw [this] at z
          exact hn (per_long C hx z)
        · rw [h2] at z
          exact hn (per_long C hx z)
  have hit : itN l (k' + 1) x = "clock" ∨ itN l (k' + 1) x ∈ keys l := C.nx _
  have hok : sOk (itN l (k' + 1) x) := by
    rcases hit with z | z
    · rw [z]; exact clock_ok
    · exact (C.good _ z).ok
  have te : fBinT dEq (fVar 3) (fVar 2) [some (.dmx (mixD (mapD .str l))), some B, some (.str x), some (.str (itN l (k' + 1) x)), y4, some (txs (itR l x (k' + 1)))] = .ok ((perN l x).isSome) := by
    rw [← hno.1]
    exact binTE (x := .str (itN l (k' + 1) x)) (y := .str x) rfl rfl (by rw [dEq_str hok gx.ok])
  unfold rndAt
  cases hp : perN l x with
  | some i =>
    rw [hp] at te
    refine ⟨none, none, none, (seqN ep (seqN (TB.forME (kvs := mixD (mapD .str l)) rfl e) (ifsT te (retE (tupE (ds := [.str "round", txs (itR l x (k' + 1))]) rfl (Nat.le_of_ble_eq_true rfl)))))).trans ?_⟩
    rw [hno.2 i hp]
    rfl
  | none =>
    rw [hp] at te
    exact ⟨_, _, _, seqN ep (seqN (TB.forME (kvs := mixD (mapD .str l)) rfl e) (ifsF te rfl))⟩
theorem rounds_loop (C : Clo l) {B : D} : ∀ (L : List Str) (x2 x3 x4 x5 : Option D), (∀ x ∈ L, x ∈ keys l) → ∃ y2 y3 y4 y5, fForL (fgNm 2) b__law_due_3 (L.map .str) [some (.dmx (mixD (mapD .str l))), some B, x2, x3, x4, x5] = match L.findSome? (rndAt l) with
    | some ys => .rt (roundD ys)
    | none => .nx [some (.dmx (mixD (mapD .str l))), some B, y2, y3, y4, y5]
  | [], x2, x3, x4, x5, _ => ⟨x2, x3, x4, x5, rfl⟩
  | x :: L, x2, x3, x4, x5, h => by
    obtain ⟨a3, a4, a5, e1⟩ := due_round C (h x List.mem_cons_self) (B := B) (x3 := x3) (x4 := x4) (x5 := x5)
    obtain ⟨y2, y3, y4, y5, e⟩ := rounds_loop C (B := B) L (some (.str x)) a3 a4 a5 fun y hy => h y (List.mem_cons_of_mem _ hy)
    refine ⟨y2, y3, y4, y5, ?_⟩
    rw [List.map_cons, UR.forL_cons (s1 := [some (.dmx (mixD (mapD .str l))), some B, some (.str x), x3, x4, x5]) rfl, e1, List.findSome?_cons]
    cases rndAt l x with
    | some ys => rfl
    | none => exact e
end
/-- what is due of any rows -/
def dueOf (R : List (D × D)) (bad : D × D → Bool) : D := match R.find? bad with
  | some p => .tup [.str "row", p.1]
  | none => match rnd (anl R) with
    | some ys => roundD ys
    | none => .non
theorem v_due {R : List (D × D)} (O : RowsO R) (hn : (R.map fun p => nkey p.1).Nodup) {bs : List D} (hb : ∀ d ∈ bs, d ∈ ALLK) (hi : R.find? (badL R bs) = none → R.find? (badP (keysM R)) = none) : f__law_due [.dmx R, .lst bs] = .ok (dueOf R (badL R bs)) := by
  have L := find_loop (g := fgNm 2) (b := b__law_due_1) (S := fun s => ∃ x2 x3 x4 x5, s = [some (.dmx R), some (.lst bs), x2, x3, x4, x5]) (f := fun p => p.1) (bad := badL R bs) (x := fun p => .rt (.tup [.str "row", p.1])) (fun _ _ z => nomatch z) (fun _ _ z => nomatch z) (fun _ _ z => nomatch z) R [some (.dmx R), some (.lst bs), none, none, none, none] ⟨_, _, _, _, rfl⟩ (fun p hp s ⟨x2, x3, x4, x5, hs⟩ => by
    subst hs
    refine ⟨_, rfl, ?_⟩
    have hb := due_body O hn hb (x3 := x3) (x4 := x4) (x5 := x5) hp
    split at hb
    · next z => rw [if_pos z]; exact hb
    · next z => rw [if_neg z]; exact ⟨_, hb, _, _, _, _, rfl⟩)
  unfold dueOf
  cases hf : R.find? (badL R bs) with
  | some p =>
    rw [hf] at L
    exact runB_rt (seqR (TB.forME (kvs := R) rfl L))
  | none =>
    rw [hf] at L
    obtain ⟨s', e, x2, x3, x4, x5, rfl⟩ := L
    obtain ⟨eR, C⟩ := no_bad O hn (hi hf)
    have hl := C.len
    have hk : keysM R = (keys (anl R)).map .str := by
      have := keysM_map (f := D.str) (anl R)
      rw [← eR] at this
      exact this
    have er : fIter (fCall 1 f__law_rising [] (fCons (fVar 0) fNil)) [some (.dmx R), some (.lst bs), x2, x3, x4, x5] = .ok ((rise (keys (anl R))).map .str) := iterE (callE (l := fCons (fVar 0) fNil) (ds := [.dmx R]) rfl rfl (v_lriseM hk (by rw [List.length_map]; omega))) rfl
    obtain ⟨y2, y3, y4, y5, e2⟩ := rounds_loop C (B := .lst bs) (rise (keys (anl R))) x2 x3 x4 x5 fun x hx => mem_rise.mp hx
    rw [← eR] at e2
    show f__law_due [.dmx R, .lst bs] = .ok (match rnd (anl R) with | some ys => roundD ys | none => .non)
    unfold rnd
    cases hr : (rise (keys (anl R))).findSome? (rndAt (anl R)) with
    | some ys =>
      rw [hr] at e2
      exact runB_rt (seqN (TB.forME (kvs := R) rfl e) (seqR (forE er e2)))
    | none =>
      rw [hr] at e2
      exact runB_rt (seqN (TB.forME (kvs := R) rfl e) (seqN (forE er e2) (retE rfl)))
end DL.K07
namespace DL.K07
open PySem PySem.Spec PyProof.Rows L2 DL.XP DL.UR
variable [TabC]
/-! ### what is told and what is due are the same -/
theorem same_eqK : ∀ k, DL.K07.r__law_same k = DL.r__law_same k
  | 0 => rfl
  | k + 1 => by
    rw [DL.K07.r__law_same, DL.r__law_same, same_eqK k]
    rfl
theorem same_d {d : D} (h : Pl 5 d) : DL.K07.f__law_same [d, d] = .ok (.bl true) := (congrFun (same_eqK 6) [d, d]).trans (DL.v_same 5 d h)
theorem k_pl : ∀ k ∈ ALLK, Pl 4 k := fun k hk => by
  rcases List.mem_append.mp hk with h | h
  · obtain ⟨x, hx, rfl⟩ := List.mem_map.mp h
    rw [Pl]
    exact (names_good hx).ok
  · simp only [ODDK, List.mem_cons, List.not_mem_nil, or_false] at h
    rcases h with rfl | rfl | rfl | rfl | rfl | rfl
    · rw [Pl]; exact clock_ok
    · rw [Pl]; exact (show sOk "" by decide +kernel)
    · rw [Pl]; exact (show sOk "A" by decide +kernel)
    · rw [Pl]; trivial
    · rw [Pl]; trivial
    · rw [Pl]
      refine ⟨Nat.le_of_ble_eq_true rfl, fun d hd => ?_⟩
      rw [List.mem_singleton.mp hd, Pl]
      exact (show sOk "a" by decide +kernel)
theorem pl_round {l : Anc} (C : Clo l) {ys : List Str} (h : rnd l = some ys) : Pl 5 (roundD ys) := by
  unfold rnd at h
  obtain ⟨x, hx, e⟩ := List.exists_of_findSome?_eq_some h
  have hx := mem_rise.mp hx
  unfold rndAt at e
  obtain ⟨i, hi, rfl⟩ := Option.map_eq_some_iff.mp e
  unfold perN at hi
  rw [List.find?_range_eq_some] at hi
  obtain ⟨e1, hi, _⟩ := hi
  have hc := cyc_in C hx (of_decide_eq_true e1)
  rw [List.mem_range] at hi
  have := C.len
  unfold roundD
  rw [Pl]
  refine ⟨Nat.le_of_ble_eq_true rfl, fun d hd => ?_⟩
  rcases List.mem_cons.mp hd with e | hd
  · rw [e, Pl]; exact (show sOk "round" by decide +kernel)
  · rw [List.mem_singleton.mp hd]
    unfold txs
    rw [Pl]
    refine ⟨by rw [List.length_map, itr_len]; omega, fun d hd => ?_⟩
    obtain ⟨y, hy, rfl⟩ := List.mem_map.mp hd
    unfold itR at hy
    obtain ⟨j, hj, rfl⟩ := List.mem_map.mp hy
    rw [List.mem_range] at hj
    rw [Pl]
    exact (C.good _ (hc j (by omega))).ok
theorem pl_row {k : D} (h : k ∈ ALLK) : Pl 5 (.tup [.str "row", k]) := by
  rw [Pl]
  refine ⟨Nat.le_of_ble_eq_true rfl, fun d hd => ?_⟩
  rcases List.mem_cons.mp hd with e | hd
  · rw [e, Pl]; exact (show sOk "row" by decide +kernel)
  · rw [List.mem_singleton.mp hd]; exact k_pl k h
theorem pl_due {R : List (D × D)} (O : RowsO R) (hn : (R.map fun p => nkey p.1).Nodup) {bad : D × D → Bool} (hi : R.find? bad = none → R.find? (badP (keysM R)) = none) : Pl 5 (dueOf R bad) := by
  unfold dueOf
  cases hf : R.find? bad with
  | some p => exact pl_row (O.k p (List.mem_of_find?_eq_some hf))
  | none =>
    obtain ⟨_, C⟩ := no_bad O hn (hi hf)
    show Pl 5 (match rnd (anl R) with | some ys => roundD ys | none => .non)
    cases hr : rnd (anl R) with
    | some ys => exact pl_round C hr
    | none => show Pl 5 .non; unfold Pl; trivial
theorem find_same {R : List (D × D)} {a b : D × D → Bool} (h : ∀ p ∈ R, a p = b p) : R.find? a = R.find? b := by
  induction R with
  | nil => rfl
  | cons p R ih =>
    rw [List.find?_cons, List.find?_cons, h p List.mem_cons_self, ih fun q hq => h q (List.mem_cons_of_mem _ hq)]
theorem due_same {R : List (D × D)} {a b : D × D → Bool} (h : ∀ p ∈ R, a p = b p) : dueOf R a = dueOf R b := by
  unfold dueOf
  rw [find_same h]
/-- no value is equal to a key that is no text -/
def Apart (R : List (D × D)) : Prop := ∀ p ∈ R, isS p.1 = false → ∀ q ∈ R, pyEq p.1 q.2 = false
theorem here_anc {R : List (D × D)} (O : RowsO R) (A : Apart R) {p : D × D} (hp : p ∈ R) : hereB R p.2 = anc0 (keysM R) p.2 := by
  unfold hereB anc0
  cases hs : isS p.2 with
  | true =>
    rw [Bool.true_and]
    congr 1
    unfold isS at hs
    split at hs
    · next x e =>
      rw [e]
      unfold keysM
      rw [List.any_map, Bool.eq_iff_iff, List.any_eq_true, List.any_eq_true]
      refine ⟨fun ⟨q, hq, z⟩ => ⟨q, hq, ?_⟩, fun ⟨q, hq, z⟩ => ⟨q, hq, ?_⟩⟩
      · exact pyEq_str.mpr (nkey_text.mp (of_decide_eq_true z))
      · exact decide_eq_true (nkey_text.mpr (pyEq_str.mp z))
    · cases hs
  | false =>
    have h1 : isC p.2 = false := by
      unfold isC
      split
      · next x e => rw [e] at hs; cases hs
      · rfl
    rw [h1]
    show false = (false || _)
    rw [Bool.false_or]
    symm
    rw [List.any_eq_false]
    intro k hk
    obtain ⟨q, hq, rfl⟩ := List.mem_map.mp hk
    cases hk2 : isS q.1 with
    | true => rw [v_non _ (O.v p hp) hs _ (O.k q hq) hk2]; decide
    | false => rw [A q hq hk2 p hp]; decide
def HSN : HS := [("BadRow", some 2, .fld "row" "name"), ("Round", some 2, .lst "round" "names")]
theorem tried_of {C : FM D} {s : Ev} {R : List (D × D)} {bad : D × D → Bool} {O : List Nat} (h : match R.find? bad with
    | some p => C (hideL s O) = .ex (BadRowE p.1)
    | none => match rnd (anl R) with
      | some ys => C (hideL s O) = .ex (RoundE ys)
      | none => ∃ d, C (hideL s O) = .ok d) : fTried .drop HSN O C s = .ok (dueOf R bad) := by
  unfold dueOf
  cases hf : R.find? bad with
  | some p => rw [hf] at h; exact triedX h rfl rfl
  | none =>
    rw [hf] at h
    show _ = Res.ok (match rnd (anl R) with | some ys => roundD ys | none => .non)
    cases hr : rnd (anl R) with
    | some ys =>
      have h : C (hideL s O) = .ex (RoundE ys) := by
        dsimp only at h
        rw [hr] at h
        exact h
      exact triedX h rfl rfl
    | none =>
      have h : ∃ d, C (hideL s O) = .ok d := by
        dsimp only at h
        rw [hr] at h
        exact h
      obtain ⟨d, e⟩ := h
      exact triedO e
theorem make_of {f : FFn} {a : FM D} {s : Ev} {R R' : List (D × D)} {bad : D × D → Bool} {l : Anc} (h : a s = .ok (.dmx R')) (hv : match R.find? bad with
    | some p => f [.dmx R'] = .ex (BadRowE p.1)
    | none => match rnd l with
      | some ys => f [.dmx R'] = .ex (RoundE ys)
      | none => ∃ d, f [.dmx R'] = .ok d ∧ isObj d = true) : match R.find? bad with
    | some p => fMake 2 f [] (fCons a fNil) s = .ex (BadRowE p.1)
    | none => match rnd l with
      | some ys => fMake 2 f [] (fCons a fNil) s = .ex (RoundE ys)
      | none => ∃ d, fMake 2 f [] (fCons a fNil) s = .ok d := by
  have mk : fMake 2 f [] (fCons a fNil) s = (f [.dmx R']).bind fun d => if isObj d = true then .ok d else .bad := by
    unfold fMake
    rw [consE h rfl]
    rfl
  rw [mk]
  cases hf : R.find? bad with
  | some p => rw [hf] at hv; dsimp only at hv ⊢; rw [hv]; rfl
  | none =>
    rw [hf] at hv
    dsimp only at hv ⊢
    cases hr : rnd l with
    | some ys => rw [hr] at hv; dsimp only at hv ⊢; rw [hv]; rfl
    | none =>
      rw [hr] at hv
      dsimp only at hv ⊢
      obtain ⟨d, e, ho⟩ := hv
      exact ⟨d, by rw [e]; show (if isObj d = true then Res.ok d else Res.bad) = _; rw [if_pos ho]⟩
/-- the first look of a turn -/
theorem hang_same {s : Ev} {R : List (D × D)} {O : List Nat} (hs : fVar 9 (hideL s O) = .ok (.dmx R)) (hs2 : fVar 9 s = .ok (.dmx R)) (Ro : RowsO R) (hn : (R.map fun p => nkey p.1).Nodup) (A : Apart R) :
    fNotT (fVal (fCall 2 f__law_same [] (fCons (fTried .drop HSN O (fMake 2 f_Hanging___init__ [] (fCons (fVar 9) fNil))) (fCons (fCall 2 f__law_due [] (fCons (fVar 9) (fCons (fLst fNil) fNil))) fNil)))) s = .ok false := by
  have hb : ∀ p ∈ R, badL R [] p = badP (keysM R) p := fun p hp => by
    unfold badL badP
    rw [here_anc Ro A hp]
    simp
  have e1 : fTried .drop HSN O (fMake 2 f_Hanging___init__ [] (fCons (fVar 9) fNil)) s = .ok (dueOf R (badP (keysM R))) := tried_of (make_of hs (v_hangO Ro hn))
  have e2 : fCall 2 f__law_due [] (fCons (fVar 9) (fCons (fLst fNil) fNil)) s = .ok (dueOf R (badP (keysM R))) := by
    rw [← due_same hb]
    exact callE (ds := [.dmx R, .lst []]) (consE hs2 (consE rfl rfl)) rfl (v_due Ro hn (fun d hd => nomatch hd) fun z => by rw [← find_same hb]; exact z)
  exact notTE (valE (callE (ds := [_, _]) (consE e1 (consE e2 rfl)) rfl (same_d (pl_due Ro hn id))))
end DL.K07
namespace DL.K07
open PySem PySem.Spec PyProof.Rows L2 DL.XP DL.UR
variable [TabC]
/-! ### books -/
def ODDW : List D := [.int (-1), .non, .str "1", .bl true, .lst [], .int (-999999999)]
def ALLW : List D := ((List.range 9).map fun i => .int (i : Nat)) ++ ODDW
def isI : D → Bool
  | .int _ => true
  | _ => false
def okW : D → Bool
  | .int i => decide (0 ≤ i)
  | _ => false
theorem w_int : ∀ w ∈ ALLW, f_is_integer [w] = .ok (.bl (isI w)) := fun w hw => nameIs_eq ((show ∀ w ∈ ALLW, nameIs (f_is_integer [w]) (isI w) = true by decide +kernel) w hw)
theorem w_ge : ∀ w ∈ ALLW, isI w = true → dGe w (.int 0) = some (.bl (okW w)) := fun w hw hi => optIs_eq ((show ∀ w ∈ ALLW, isI w = true → optIs (dGe w (.int 0)) (okW w) = true by decide +kernel) w hw hi)
theorem w_no : ∀ w ∈ ALLW, isI w = false → okW w = false := by decide +kernel
theorem w_odd : ∀ w ∈ ODDW, okW w = false := by decide +kernel
theorem w_num : ∀ i : Nat, i < 9 → okW (.int (i : Nat)) = true := fun i _ => decide_eq_true (Int.natCast_nonneg i)
/-- keys, values, waits -/
abbrev Tri := D × D × D
structure TriO (T : List Tri) : Prop where
  k : ∀ t ∈ T, t.1 ∈ ALLK
  v : ∀ t ∈ T, t.2.1 ∈ ALLV
  w : ∀ t ∈ T, t.2.2 ∈ ALLW
  len : T.length ≤ 50
def rowsT (T : List Tri) : List (D × D) := T.map fun t => (t.1, t.2.1)
def prsT (T : List Tri) : List (D × D) := T.map fun t => (t.1, .tup [t.2.1, t.2.2])
theorem TriO.rows {T : List Tri} (O : TriO T) : RowsO (rowsT T) := ⟨fun p hp => by
  obtain ⟨t, ht, rfl⟩ := List.mem_map.mp hp
  exact O.k t ht, fun p hp => by
  obtain ⟨t, ht, rfl⟩ := List.mem_map.mp hp
  exact O.v t ht, by unfold rowsT; rw [List.length_map]; exact O.len⟩
theorem keys_T {T : List Tri} : keysM (prsT T) = keysM (rowsT T) := by
  unfold keysM prsT rowsT
  rw [List.map_map, List.map_map]
  rfl
def badT (ks : List D) (t : Tri) : Bool := !isN t.1 || !(anc0 ks t.2.1 && okW t.2.2)
theorem v_anchorB {R : List (D × D)} (hk : ∀ k ∈ keysM R, k ∈ ALLK) {v : D} (hv : v ∈ ALLV) : f_is_anchor [v, .dmx R] = .ok (.bl (anc0 (keysM R) v)) := by
  have e1 : fBin dEq (fVar 0) (fC (.str "clock")) (startD N_is_anchor [v, .dmx R]) = .ok (.bl (isC v)) := binE (x := v) (y := .str "clock") rfl rfl (by rw [dEq_ok ((okB_ok (v_ok v hv)).ok (by decide)) (OkN.str (k := 3) clock_ok |>.ok (by decide)), v_clk v hv])
  have e2 : fBin dIn (fVar 0) (fBlt dListM (fCons (fVar 1) fNil)) (startD N_is_anchor [v, .dmx R]) = .ok (.bl ((keysM R).any fun k => pyEq k v)) := binE (x := v) (y := .lst (keysM R)) rfl (bltE (xs := [.dmx R]) rfl rfl) (dIn_any (v_ok v hv) fun d hd => k_ok _ (hk d hd))
  refine runB_rt (retE ?_)
  unfold anc0
  cases h : isC v with
  | true => rw [h] at e1; exact orT e1
  | false => rw [h] at e1; exact orF e1 e2
theorem v_book_rowM {R : List (D × D)} (hk : ∀ k ∈ keysM R, k ∈ ALLK) {v w : D} (hv : v ∈ ALLV) (hw : w ∈ ALLW) : f_is_book_row [.tup [v, w], .dmx R] = .ok (.bl (anc0 (keysM R) v && okW w)) := by
  have t := or_not (s := startD N_is_book_row [.tup [v, w], .dmx R]) (notTE (valE (callE (f := f_is_list) (dds := []) (r := .ok (.bl true)) (l := fCons (fVar 0) fNil) (ds := [.tup [v, w]]) rfl rfl rfl))) (or_not (t := fBinT dNe (fBlt dLen (fCons (fVar 0) fNil)) (fC (.int 2))) (a := false) rfl (notTE (valE (callE (f := f_is_anchor) (dds := []) (l := fCons (fBin dIdx (fVar 0) (fC (.int 0))) (fCons (fVar 1) fNil)) (ds := [v, .dmx R]) rfl rfl (v_anchorB hk hv)))))
  refine (show runB N_is_book_row B_is_book_row [.tup [v, w], .dmx R] = _ from ?_)
  cases ha : anc0 (keysM R) v with
  | false =>
    rw [ha] at t
    exact runB_rt (seqR (ifsT t (retE rfl)))
  | true =>
    rw [ha] at t
    refine runB_rt (seqN (ifsF t rfl) (retE ?_))
    have e1 : fCall 1 f_is_integer [] (fCons (fBin dIdx (fVar 0) (fC (.int 1))) fNil) (startD N_is_book_row [.tup [v, w], .dmx R]) = .ok (.bl (isI w)) := callE (ds := [w]) rfl rfl (w_int w hw)
    rw [Bool.true_and]
    cases hi : isI w with
    | false =>
      rw [hi] at e1
      rw [w_no w hw hi]
      exact andF e1
    | true =>
      rw [hi] at e1
      exact andT e1 (binE (x := w) (y := .int 0) rfl rfl (w_ge w hw hi))
theorem book_body {T : List Tri} (O : TriO T) {slf : Option D} {t : Tri} (ht : t ∈ T) : b_Book___init___1 [slf, some (.dmx (prsT T)), some t.1, some (.tup [t.2.1, t.2.2])] = if badT (keysM (rowsT T)) t = true then .ex (BadRowE t.1) else .nx [slf, some (.dmx (prsT T)), some t.1, some (.tup [t.2.1, t.2.2])] := by
  have hk : ∀ k ∈ keysM (prsT T), k ∈ ALLK := fun k hk => by
    rw [keys_T] at hk
    obtain ⟨p, hp, rfl⟩ := List.mem_map.mp hk
    exact O.rows.k p hp
  have tt := or_not (s := [slf, some (.dmx (prsT T)), some t.1, some (.tup [t.2.1, t.2.2])]) (notTE (valE (callE (l := fCons (fVar 2) fNil) (ds := [t.1]) rfl rfl (k_name _ (O.k t ht))))) (notTE (valE (callE (l := fCons (fVar 3) (fCons (fVar 1) fNil)) (ds := [.tup [t.2.1, t.2.2], .dmx (prsT T)]) rfl rfl (v_book_rowM hk (O.v t ht) (O.w t ht)))))
  rw [keys_T] at tt
  refine (ifB tt).trans ?_
  unfold badT
  split
  · exact raiseE (ds := [t.1]) rfl rfl
  · rfl
theorem find_mapT {α β : Type} {f : α → β} {a : β → Bool} {b : α → Bool} : ∀ {T : List α}, (∀ t ∈ T, a (f t) = b t) → (T.map f).find? a = (T.find? b).map f
  | [], _ => rfl
  | t :: T, h => by
    rw [List.map_cons, List.find?_cons, List.find?_cons, h t List.mem_cons_self, find_mapT fun q hq => h q (List.mem_cons_of_mem _ hq)]
    cases b t <;> rfl
theorem find_loopT {α : Type} {g : FG} {b : FS} {S : Ev → Prop} {f : α → D} {bad : α → Bool} {x : α → SO} (hx : ∀ p s, x p ≠ .nx s) (hx2 : ∀ p s, x p ≠ .ct s) (hx3 : ∀ p s, x p ≠ .bk s) : ∀ (rs : List α) (s : Ev), S s → (∀ p ∈ rs, ∀ s, S s → ∃ s1, g (f p) s = some s1 ∧ (if bad p = true then b s1 = x p else ∃ s2, b s1 = .nx s2 ∧ S s2)) →
    match rs.find? bad with
    | some p => fForL g b (rs.map f) s = x p
    | none => ∃ s', fForL g b (rs.map f) s = .nx s' ∧ S s'
  | [], s, h, _ => ⟨s, rfl, h⟩
  | p :: rs, s, h, st => by
    obtain ⟨s1, e1, w⟩ := st p List.mem_cons_self s h
    rw [List.find?_cons, List.map_cons, UR.forL_cons e1]
    cases hb : bad p with
    | true =>
      rw [if_pos hb] at w
      rw [w]
      show (match x p with | .nx s2 => _ | .ct s2 => _ | .bk s2 => _ | o => o) = x p
      cases hxp : x p with
      | nx s => exact (hx p s hxp).elim
      | ct s => exact (hx2 p s hxp).elim
      | bk s => exact (hx3 p s hxp).elim
      | _ => rfl
    | false =>
      rw [if_neg (by rw [hb]; decide)] at w
      obtain ⟨s2, e2, h2⟩ := w
      rw [e2]
      exact find_loopT hx hx2 hx3 rs s2 h2 fun q hq => st q (List.mem_cons_of_mem _ hq)
/-- a book asked of any rows -/
theorem v_bookO {T : List Tri} (O : TriO T) (hn : ((rowsT T).map fun p => nkey p.1).Nodup) {bad : D × D → Bool} (hb : ∀ t ∈ T, bad (t.1, t.2.1) = badT (keysM (rowsT T)) t) : match (rowsT T).find? bad with
    | some p => f_Book___init__ [.dmx (prsT T)] = .ex (BadRowE p.1)
    | none => match rnd (anl (rowsT T)) with
      | some ys => f_Book___init__ [.dmx (prsT T)] = .ex (RoundE ys)
      | none => ∃ d, f_Book___init__ [.dmx (prsT T)] = .ok d ∧ isObj d = true := by
  have L := find_loopT (g := fgTp (fgsCons (fgNm 2) (fgsCons (fgNm 3) fgsNil))) (b := b_Book___init___1) (S := fun s => ∃ x2 x3, s = [some (.obj "Book" []), some (.dmx (prsT T)), x2, x3]) (f := fun t : Tri => .tup [t.1, .tup [t.2.1, t.2.2]]) (bad := badT (keysM (rowsT T))) (x := fun t => .ex (BadRowE t.1)) (fun _ _ z => nomatch z) (fun _ _ z => nomatch z) (fun _ _ z => nomatch z) T [some (.obj "Book" []), some (.dmx (prsT T)), none, none] ⟨_, _, rfl⟩ (fun t ht s ⟨x2, x3, hs⟩ => by
    subst hs
    refine ⟨_, rfl, ?_⟩
    have hb := book_body O (slf := some (.obj "Book" [])) ht
    split at hb
    · next z => rw [if_pos z]; exact hb
    · next z => rw [if_neg z]; exact ⟨_, hb, _, _, rfl⟩)
  have er : rowsM (prsT T) = T.map fun t : Tri => .tup [t.1, .tup [t.2.1, t.2.2]] := by
    unfold rowsM prsT
    rw [List.map_map]
    rfl
  have ef : (rowsT T).find? bad = (T.find? (badT (keysM (rowsT T)))).map fun t => (t.1, t.2.1) := find_mapT hb
  rw [ef]
  cases hf : T.find? (badT (keysM (rowsT T))) with
  | some t =>
    rw [hf] at L
    exact runI_ex (seqX (TB.forME (kvs := prsT T) rfl (by rw [er]; exact L)))
  | none =>
    rw [hf] at L
    obtain ⟨s', e, x2, x3, rfl⟩ := L
    have hno : (rowsT T).find? (badP (keysM (rowsT T))) = none := by
      rw [List.find?_eq_none]
      intro p hp
      obtain ⟨t, ht, rfl⟩ := List.mem_map.mp hp
      have := List.find?_eq_none.mp hf t ht
      unfold badT at this
      unfold badP
      rw [Bool.or_eq_true, not_or] at this ⊢
      refine ⟨this.1, fun z => this.2 ?_⟩
      have z : anc0 (keysM (rowsT T)) t.2.1 = false := by simpa using z
      rw [z]
      rfl
    obtain ⟨eR, C⟩ := no_bad O.rows hn hno
    have hl := C.len
    have hc := v_roundsM C
    have ek : ∀ t ∈ T, t.1 = .str (txD t.1) ∧ t.2.1 = .str (txD t.2.1) := fun t ht => by
      have h : (t.1, t.2.1) ∈ rowsT T := List.mem_map.mpr ⟨t, ht, rfl⟩
      rw [eR] at h
      unfold mixD mapD at h
      rw [List.map_map] at h
      obtain ⟨q, hq, e⟩ := List.mem_map.mp h
      have e1 : D.str q.1 = t.1 := congrArg Prod.fst e
      have e2 : D.str q.2 = t.2.1 := congrArg Prod.snd e
      rw [← e1, ← e2]
      exact ⟨rfl, rfl⟩
    have ea : anl (rowsT T) = T.map fun t => (txD t.1, txD t.2.1) := by
      unfold anl rowsT
      rw [List.map_map]
      rfl
    have hkn : (T.map fun t => txD t.1).Nodup := by
      have := C.nd
      unfold keys at this
      rw [ea, List.map_map] at this
      exact this
    have lt : T.length = (anl (rowsT T)).length := by rw [ea, List.length_map]
    have ed : fDcM (fun s => (s[1]?).join) rowsM [2, 3] (fgTp (fgsCons (fgNm 2) (fgsCons (fgNm 3) fgsNil))) fYes (fVar 2) (fBin dIdx (fVar 3) (fC (.int 0))) [some (.obj "Book" []), some (.dmx (prsT T)), x2, x3] = .ok (.dic (mapD .str (anl (rowsT T)))) := by
      refine dcME (kvs := prsT T) rfl (by rw [er, List.length_map, lt]; unfold LIM; omega) ?_
      rw [er, ea]
      exact dc_map (fun t : Tri => .tup [t.1, .tup [t.2.1, t.2.2]]) (fun t => txD t.1) (fun t => txD t.2.1) D.str T [] (by rw [List.map_nil, List.nil_append]; exact hkn) fun t ht => ⟨_, rfl, congrArg Res.ok (ek t ht).1, congrArg Res.ok (ek t ht).2⟩
    show (match rnd (anl (rowsT T)) with | some ys => _ | none => _)
    cases hr : rnd (anl (rowsT T)) with
    | some ys =>
      rw [hr] at hc
      exact runI_ex (seqN (TB.forME (kvs := prsT T) rfl (by rw [er]; exact e)) (seqX (dropX (callE (ds := [.dmx (mixD (mapD .str (anl (rowsT T))))]) (consE (by unfold fMix; rw [ed]; rfl) rfl) rfl hc))))
    | none =>
      rw [hr] at hc
      have hd1 : dListM [.dmx (prsT T)] = some (txs (keys (anl (rowsT T)))) := by
        show some (D.lst (keysM (prsT T))) = _
        rw [keys_T, eR, keysM_map, ← eR]
      obtain ⟨xs, ex⟩ : ∃ xs : List (Str × D), fDc (fIter (fCall 1 f_rising [] (fCons (fBlt dListM (fCons (fVar 1) fNil)) fNil))) [2] (fgNm 2) fYes (fVar 2) (fBlt dTuple (fCons (fBin dIdxM (fVar 1) (fVar 2)) fNil)) [some (.obj "Book" []), some (.dmx (prsT T)), x2, x3] = .ok (.dic (mapD id xs)) := by
        refine ⟨[] ++ (rise (keys (anl (rowsT T)))).map fun d => (id d, (lookM (prsT T) (NestedKey.text d)).getD .non), dcE (ds := (rise (keys (anl (rowsT T)))).map .str) (iterE (callE (ds := [txs (keys (anl (rowsT T)))]) (consE (bltE rfl hd1) rfl) rfl (v_rising (by rw [List.length_map]; omega))) rfl) (by rw [List.length_map, rise_len, List.length_map]; unfold LIM; omega) ?_⟩
        have hP : ((prsT T).map fun p => nkey p.1).Nodup := by
          have : ((prsT T).map fun p => nkey p.1) = (rowsT T).map fun p => nkey p.1 := by
            unfold prsT rowsT
            rw [List.map_map, List.map_map]
            rfl
          rw [this]
          exact hn
        refine dc_map D.str id (fun x => (lookM (prsT T) (NestedKey.text x)).getD .non) id (rise (keys (anl (rowsT T)))) [] (by rw [List.map_nil, List.nil_append, List.map_id]; exact (rise_perm _).nodup_iff.mpr C.nd) fun d hd => ⟨_, rfl, rfl, ?_⟩
        have hd := mem_rise.mp hd
        unfold keys at hd
        rw [ea, List.map_map] at hd
        obtain ⟨t, ht, et⟩ := List.mem_map.mp hd
        have et : txD t.1 = d := et
        have hl : lookM (prsT T) (NestedKey.text d) = some (.tup [t.2.1, t.2.2]) := look_atM (p := (t.1, .tup [t.2.1, t.2.2])) hP (List.mem_map.mpr ⟨t, ht, rfl⟩) (by
          show nkey t.1 = _
          rw [(ek t ht).1, et]
          rfl)
        rw [hl]
        exact bltE (xs := [.tup [t.2.1, t.2.2]]) (consE (binE (x := .dmx (prsT T)) (y := .str d) rfl rfl (by
          unfold dIdxM
          dsimp only
          rw [mkey_s]
          exact hl)) rfl) rfl
      exact ⟨_, runI_nx (seqN (TB.forME (kvs := prsT T) rfl (by rw [er]; exact e)) (seqN (dropE (callE (ds := [.dmx (mixD (mapD .str (anl (rowsT T))))]) (consE (by unfold fMix; rw [ed]; rfl) rfl) rfl hc)) (fldSE ex rfl (by decide)))) rfl, rfl⟩
end DL.K07
namespace DL.K07
open PySem PySem.Spec PyProof.Rows L2 DL.XP DL.UR
variable [TabC]
/-! ### the looks at books -/
theorem k_eq : ∀ a ∈ ALLK, ∀ b ∈ ALLK, pyEq a b = decide (nkey a = nkey b) := by decide +kernel
def oddsT (T : List Tri) : List D := (T.filter fun t => !okW t.2.2).map (·.1)
theorem odds_any {T : List Tri} (O : TriO T) (hn : ((rowsT T).map fun p => nkey p.1).Nodup) {t : Tri} (ht : t ∈ T) : ((oddsT T).any fun k => pyEq k t.1) = !okW t.2.2 := by
  have hn : (T.map fun t => nkey t.1).Nodup := by
    unfold rowsT at hn
    rw [List.map_map] at hn
    exact hn
  rw [Bool.eq_iff_iff, List.any_eq_true]
  constructor
  · rintro ⟨k, hk, e⟩
    unfold oddsT at hk
    obtain ⟨u, hu, rfl⟩ := List.mem_map.mp hk
    obtain ⟨hu, ho⟩ := List.mem_filter.mp hu
    rw [k_eq _ (O.k u hu) _ (O.k t ht)] at e
    have e := of_decide_eq_true e
    have : u = t := by
      obtain ⟨i, hi, e1⟩ := List.getElem_of_mem hu
      obtain ⟨j, hj, e2⟩ := List.getElem_of_mem ht
      have : i = j := (List.getElem?_inj (l := T.map fun t => nkey t.1) (by rw [List.length_map]; exact hi) hn).mp (by
        rw [List.getElem?_map, List.getElem?_map, List.getElem?_eq_getElem hi, List.getElem?_eq_getElem hj, e1, e2]
        show some (nkey u.1) = some (nkey t.1)
        rw [e])
      subst this
      rw [← e1, ← e2]
    rw [← this]
    exact ho
  · intro h
    refine ⟨t.1, List.mem_map.mpr ⟨t, List.mem_filter.mpr ⟨ht, h⟩, rfl⟩, ?_⟩
    rw [k_eq _ (O.k t ht) _ (O.k t ht)]
    exact decide_eq_true rfl
theorem badL_T {T : List Tri} (O : TriO T) (hn : ((rowsT T).map fun p => nkey p.1).Nodup) (A : Apart (rowsT T)) {t : Tri} (ht : t ∈ T) : badL (rowsT T) (oddsT T) (t.1, t.2.1) = badT (keysM (rowsT T)) t := by
  unfold badL badT
  have h : (t.1, t.2.1) ∈ rowsT T := List.mem_map.mpr ⟨t, ht, rfl⟩
  have := here_anc O.rows A h
  have this : hereB (rowsT T) t.2.1 = anc0 (keysM (rowsT T)) t.2.1 := this
  show (!isN t.1 || (!hereB (rowsT T) t.2.1 || (oddsT T).any fun k => pyEq k t.1)) = _
  rw [this, odds_any O hn ht]
  cases isN t.1 <;> cases anc0 (keysM (rowsT T)) t.2.1 <;> cases okW t.2.2 <;> rfl
theorem odds_k {T : List Tri} (O : TriO T) : ∀ d ∈ oddsT T, d ∈ ALLK := fun d hd => by
  unfold oddsT at hd
  obtain ⟨t, ht, rfl⟩ := List.mem_map.mp hd
  exact O.k t (List.mem_filter.mp ht).1
theorem book_same {s : Ev} {T : List Tri} {O : List Nat} (hs : fVar 7 (hideL s O) = .ok (.dmx (prsT T))) (h9 : fVar 9 s = .ok (.dmx (rowsT T))) (h10 : fVar 10 s = .ok (.lst (oddsT T))) (To : TriO T) (hn : ((rowsT T).map fun p => nkey p.1).Nodup) (A : Apart (rowsT T)) :
    fNotT (fVal (fCall 2 f__law_same [] (fCons (fTried .drop HSN O (fMake 2 f_Book___init__ [] (fCons (fVar 7) fNil))) (fCons (fCall 2 f__law_due [] (fCons (fVar 9) (fCons (fVar 10) fNil))) fNil)))) s = .ok false := by
  have hb : ∀ t ∈ T, badL (rowsT T) (oddsT T) (t.1, t.2.1) = badT (keysM (rowsT T)) t := fun t ht => badL_T To hn A ht
  have hi : (rowsT T).find? (badL (rowsT T) (oddsT T)) = none → (rowsT T).find? (badP (keysM (rowsT T))) = none := fun z => by
    rw [List.find?_eq_none] at z ⊢
    intro p hp
    have := z p hp
    obtain ⟨t, ht, rfl⟩ := List.mem_map.mp hp
    rw [hb t ht] at this
    unfold badT at this
    unfold badP
    rw [Bool.or_eq_true, not_or] at this ⊢
    refine ⟨this.1, fun q => this.2 ?_⟩
    have q : anc0 (keysM (rowsT T)) t.2.1 = false := by simpa using q
    rw [q]
    rfl
  have e1 : fTried .drop HSN O (fMake 2 f_Book___init__ [] (fCons (fVar 7) fNil)) s = .ok (dueOf (rowsT T) (badL (rowsT T) (oddsT T))) := tried_of (make_of hs (v_bookO To hn hb))
  have e2 : fCall 2 f__law_due [] (fCons (fVar 9) (fCons (fVar 10) fNil)) s = .ok (dueOf (rowsT T) (badL (rowsT T) (oddsT T))) := callE (ds := [.dmx (rowsT T), .lst (oddsT T)]) (consE h9 (consE h10 rfl)) rfl (v_due To.rows hn (odds_k To) hi)
  exact notTE (valE (callE (ds := [_, _]) (consE e1 (consE e2 rfl)) rfl (same_d (pl_due To.rows hn hi))))
/-! the last look: one row that is none -/
def ODDB : List D := [.non, .int 5, .str "clock", .tup [.str "clock"], .tup [.str "clock", .int 1, .int 2], .lst [], .dic [], .lst [.lst [.str "clock", .int 1]]]
theorem odd_row {R : List (D × D)} {o : D} (h : o ∈ ODDB) : f_is_book_row [o, .dmx R] = .ok (.bl false) := by
  unfold ODDB at h
  simp only [List.mem_cons, List.not_mem_nil, or_false] at h
  rcases h with rfl | rfl | rfl | rfl | rfl | rfl | rfl | rfl <;> rfl
end DL.K07
namespace DL.K07
open PySem PySem.Spec PyProof.Rows L2 DL.XP DL.UR
variable [TabC]
theorem M__law_hungF : MeetsF 2 N__law_hungF sp__law_hungF B__law_hungF := by
  intro ds n Q xq hl h
  obtain ⟨xs, rfl, h1, hn, hok, h2, q⟩ := h
  unfold B__law_hungF
  refine ⟨show 3 < 6 by decide, rfl, mix_strs h1 hok (by omega) fun ys hp => ?_⟩
  have hyn : ys.Nodup := hp.nodup_iff.mpr hn
  have hyl : ys.length = xs.length := hp.length_eq
  show sSeqF (sFor (up (fEnum (fVar 2))) _ _) _ xq _ [some .st, some (txs xs), some (txs ys), some (.dic []), none, none] (n + xs.length)
  refine seqFM (forU (i := fEnum (fVar 2)) (enumE (d := txs ys) (ds := ys.map .str) rfl rfl) ?_)
  refine sfor_enum D.str (fun acc s m => ∃ (l : Anc) (x4 x5 : Option D), keys l = acc ∧ Hung l [] ∧ m = n + xs.length + acc.length ∧ s = [some .st, some (txs xs), some (txs ys), some (.dic (mapD .str l)), x4, x5]) ys ⟨[], none, none, rfl, trivial, by simp, rfl⟩ ?_ ?_
  · rintro s' n' ⟨l, x4, x5, hk, hb, rfl, rfl⟩
    have := q l (by show (keys l).Perm xs; rw [hk]; exact hp) hb
    rw [show n + 2 * xs.length = n + xs.length + ys.length by omega] at this
    exact this
  · rintro acc d post s m de' e ⟨l, x4, x5, hk, hb, rfl, rfl⟩ hq
    have hlt := len_pre e
    have e1 : fBin dAdd (fLst (fCons (fC (.str "clock")) fNil)) (fSl (fVar 2) fNone (fSome (fVar 4))) [some .st, some (txs xs), some (txs ys), some (.dic (mapD .str l)), some (.int (acc.length : Nat)), some (.str d)] = .ok (txs ("clock" :: acc)) := by
      refine binE (x := .lst [.str "clock"]) (y := txs acc) rfl ?_ ?_
      · show Res.ok (D.lst (cutL (ys.map D.str) none (some (acc.length : Int)))) = _
        rw [cut_to, ← List.map_take, ← e, List.take_left' rfl]
      · show (if 1 + (acc.map D.str).length ≤ LIM then some (D.lst ([.str "clock"] ++ acc.map D.str)) else none) = _
        rw [if_pos (by rw [List.length_map]; unfold LIM; omega)]
        rfl
    refine ⟨_, rfl, dputM (callM (ds := [.st, txs ("clock" :: acc)]) (consE rfl (consE e1 rfl)) rfl (one_strs (by rw [List.length_cons]; omega) (by rw [List.length_cons]; omega) (by omega) fun a ha => ⟨.inr d, mapD .str l, rfl, rfl, ?_, ?_⟩))⟩
    · have : l.length = acc.length := by rw [← hk, List.length_map]
      unfold mapD
      rw [List.length_map]
      exact lim_of (by omega)
    · refine hq _ _ ⟨l ++ [(d, a)], some (.int (acc.length : Nat)), some (.str d), ?_, hung_snoc hb ?_, ?_, ?_⟩
      · show (l ++ _).map (·.1) = _
        rw [List.map_append]
        show keys l ++ [d] = _
        rw [hk]
      · rw [List.nil_append, hk]
        exact List.mem_cons.mp ha
      · rw [List.length_append, List.length_singleton]; omega
      · rw [← put_new (f := D.str) (by show d ∉ keys l; rw [hk]; exact nd_pre hyn e)]
        rfl
/-! dicts made of rows -/
theorem no_look {a : List (D × D)} {k : MD.NK} (h : ∀ p ∈ a, nkey p.1 ≠ some k) : lookM a k = none := by
  cases e : lookM a k with
  | none => rfl
  | some d =>
    have : (lookM a k).isSome = true := by rw [e]; rfl
    rw [look_some?, List.any_eq_true] at this
    obtain ⟨p, hp, z⟩ := this
    exact (h p hp (of_decide_eq_true z)).elim
theorem merge_new : ∀ (kvs acc : List (D × D)), (∀ p ∈ kvs, p.1 ∈ ALLK) → ((acc ++ kvs).map fun p => nkey p.1).Nodup → mergeM acc kvs = acc ++ kvs
  | [], acc, _, _ => by rw [List.append_nil]; rfl
  | p :: kvs, acc, hk, hn => by
    obtain ⟨k, hk1⟩ := Option.isSome_iff_exists.mp (k_key _ (hk p List.mem_cons_self))
    have hk2 := (mkey_of hk1).1
    have e1 : putK acc p = acc ++ [p] := by
      unfold putK
      rw [hk2]
      show putM acc k p.1 p.2 = _
      rw [put_newM (no_look fun q hq z => ?_)]
      rw [List.map_append, List.nodup_append] at hn
      exact hn.2.2 _ (List.mem_map.mpr ⟨q, hq, rfl⟩) _ (List.mem_map.mpr ⟨p, List.mem_cons_self, rfl⟩) (by rw [z, hk2])
    show mergeM (putK acc p) kvs = _
    rw [e1, merge_new kvs (acc ++ [p]) (fun q hq => hk q (List.mem_cons_of_mem _ hq)) (by rw [List.append_assoc]; exact hn), List.append_assoc]
    rfl
theorem pairs_of : ∀ (R : List (D × D)), (∀ p ∈ R, p.1 ∈ ALLK) → pairsM (R.map fun p => .tup [p.1, p.2]) = some R
  | [], _ => rfl
  | p :: R, h => by
    obtain ⟨k, hk1⟩ := Option.isSome_iff_exists.mp (k_key _ (h p List.mem_cons_self))
    rw [List.map_cons, pairsM]
    have e : pairM (.tup [p.1, p.2]) = some p := by
      show (mkey p.1).map (fun _ => (p.1, p.2)) = _
      rw [hk1]
      rfl
    rw [e, pairs_of R fun q hq => h q (List.mem_cons_of_mem _ hq)]
    rfl
theorem dDictM_of {R : List (D × D)} (hk : ∀ p ∈ R, p.1 ∈ ALLK) (hn : (R.map fun p => nkey p.1).Nodup) : dDictM [.lst (R.map fun p => .tup [p.1, p.2])] = some (.dmx R) := by
  show (pairsM (R.map fun p => .tup [p.1, p.2])).map (fun kvs => D.dmx (mergeM [] kvs)) = _
  rw [pairs_of R hk]
  show some (D.dmx (mergeM [] R)) = _
  rw [merge_new R [] hk (by rw [List.nil_append]; exact hn), List.nil_append]
/-! the drawn key -/
theorem odd_key : ∀ k ∈ ODDK, ∀ x ∈ NAMES, nkey k ≠ some (NestedKey.text x) := by decide +kernel
theorem odd_in {k : D} (h : k ∈ ODDK) : k ∈ ALLK := List.mem_append_right _ h
theorem name_in {x : Str} (h : x ∈ NAMES) : (.str x : D) ∈ ALLK := List.mem_append_left _ (List.mem_map.mpr ⟨x, h, rfl⟩)
abbrev Vals := List (Str × D)
structure LOk (L : Vals) : Prop where
  nd : (keys L).Nodup
  nm : ∀ x ∈ keys L, x ∈ NAMES
  v : ∀ p ∈ L, p.2 ∈ ALLV
  len : L.length ≤ 5
def mxL (L : Vals) : List (D × D) := L.map fun p => (.str p.1, p.2)
theorem mxL_eq (L : Vals) : mixD (mapD id L) = mxL L := by
  unfold mixD mapD mxL
  rw [List.map_map]
  rfl
theorem mxL_nk (L : Vals) : (mxL L).map (fun p => nkey p.1) = (keys L).map fun x => some (NestedKey.text x) := by
  unfold mxL keys
  rw [List.map_map, List.map_map]
  rfl
theorem nd_text {xs : List Str} (h : xs.Nodup) : (xs.map fun x => some (NestedKey.text x)).Nodup := by
  rw [List.nodup_iff_pairwise_ne, List.pairwise_map]
  exact h.imp fun ha z => ha (by
    cases z
    rfl)
theorem mxL_rows {L : Vals} (h : LOk L) : RowsO (mxL L) ∧ ((mxL L).map fun p => nkey p.1).Nodup ∧ Apart (mxL L) := by
  refine ⟨⟨fun p hp => ?_, fun p hp => ?_, by unfold mxL; rw [List.length_map]; have := h.len; omega⟩, by rw [mxL_nk]; exact nd_text h.nd, fun p hp z => ?_⟩
  · obtain ⟨q, hq, rfl⟩ := List.mem_map.mp hp
    exact name_in (h.nm _ (List.mem_map.mpr ⟨q, hq, rfl⟩))
  · obtain ⟨q, hq, rfl⟩ := List.mem_map.mp hp
    exact h.v q hq
  · obtain ⟨q, hq, rfl⟩ := List.mem_map.mp hp
    cases z
theorem clock_v : (.str "clock" : D) ∈ ALLV := List.mem_cons_self
theorem more_rows {L : Vals} (h : LOk L) {k : D} (hk : k ∈ ODDK) (ha : isS k = false → ∀ p ∈ L, pyEq p.2 k = false) : RowsO (mxL L ++ [(k, D.str "clock")]) ∧ ((mxL L ++ [(k, D.str "clock")]).map fun p => nkey p.1).Nodup ∧ Apart (mxL L ++ [(k, D.str "clock")]) := by
  obtain ⟨h1, h2, h3⟩ := mxL_rows h
  refine ⟨⟨fun p hp => ?_, fun p hp => ?_, by rw [List.length_append]; unfold mxL; rw [List.length_map]; have := h.len; simp; omega⟩, ?_, fun p hp z q hq => ?_⟩
  · rcases List.mem_append.mp hp with q | q
    · exact h1.k p q
    · rw [List.mem_singleton.mp q]; exact odd_in hk
  · rcases List.mem_append.mp hp with q | q
    · exact h1.v p q
    · rw [List.mem_singleton.mp q]; exact clock_v
  · rw [List.map_append, mxL_nk, List.nodup_append]
    refine ⟨nd_text h.nd, List.pairwise_singleton _ _, fun a ha' b hb e => ?_⟩
    obtain ⟨x, hx, rfl⟩ := List.mem_map.mp ha'
    rw [List.map_singleton, List.mem_singleton] at hb
    rw [hb] at e
    exact odd_key k hk x (h.nm x hx) e.symm
  · rcases List.mem_append.mp hp with hp | hp
    · obtain ⟨r, hr, rfl⟩ := List.mem_map.mp hp
      cases z
    · rw [List.mem_singleton.mp hp] at z ⊢
      rcases List.mem_append.mp hq with hq | hq
      · have hv := h1.v q hq
        obtain ⟨r, hr, rfl⟩ := List.mem_map.mp hq
        rw [← v_sym _ hv _ (odd_in hk)]
        exact ha z r hr
      · rw [List.mem_singleton.mp hq]
        cases e : pyEq k (.str "clock") with
        | false => rfl
        | true =>
          rw [pyEq_str.mp e] at z
          cases z
end DL.K07
namespace DL
open PySem PySem.Spec PyProof.Rows L2
variable [TabC]
end DL
namespace SD
open PySem PySem.Spec PyProof.Rows L2
section
variable {X : Cx} {i : Nat} {y : Str} {py : Pos} {kx vx tg iter : Expr} {ifs : List Expr} {scope : Scope} {own : List (Str × Nat)} {pos spos : Pos} {wi : TI} {g : TG} {tt : TT} {tk tv : TE}
end
end SD
namespace DL
open PySem PySem.Spec PyProof.Rows L2
variable [TabC]
section
variable {X : Cx} {E : XK} {O OB OL hs ws hid : List Nat} {kx e tg iter : Expr} {ifs : List Expr} {mk me : EM D} {mt : EM Bool} {mi : EM (List D)} {g : DG} {scope : Scope} {pos : Pos} {own : List (Str × Nat)} {i : Nat} {y : Str}
end
end DL
namespace DL.K44
open PySem PySem.Spec PyProof.Rows L2
variable [TabC]
end DL.K44
namespace DL
open PySem PySem.Spec PyProof.Rows L2
variable [TabC]
/-! ### all times of wide bounds -/
end DL
namespace DL.TB
open PySem PySem.Spec PyProof.Rows L2 DL.SK
variable [TabC]
section
variable {q : Str → Bo} {rs : Row} {rk : Str → Nat} {L : Seen} {bs : Dis} {ws : List Wi} {ss : List (List Str)}
end
/-! ### blamed -/
section
variable {rs : Row} {rk : Str → Nat} {L : Seen} {bs : Dis} {ws : List Wi} {ss : List (List Str)}
end
end DL.TB
namespace DL.TB
open PySem PySem.Spec PyProof.Rows L2 DL.SK
variable [TabC]
/-! ### told back -/
section
variable {rs : Row} {rk : Str → Nat} {L : Seen} {bs : Dis} {ws : List Wi} {ss : List (List Str)}
end
end DL.TB
namespace DL.TB
open PySem PySem.Spec PyProof.Rows L2 DL.SK
variable [TabC]
theorem lcME {p : Ev → Option D} {k : List (D × D) → List D} {hs : List Nat} {g : FG} {a : FM D} {s : Ev} {kvs : List (D × D)} {xs : List D} (h : p s = some (.dmx kvs)) (hl : (k kvs).length ≤ LIM) (h2 : fLcL g fYes a (hideL s hs) (k kvs) = .ok xs) : fLcM p k hs g fYes a s = .ok (.lst xs) := by
  unfold fLcM
  rw [h]
  show (if (k kvs).length ≤ LIM then _ else _) = _
  rw [if_pos hl, h2]
  rfl
end DL.TB
namespace DL.K44
open PySem PySem.Spec PyProof.Rows L2 DL.SK DL.TB
variable [TabC]
section
variable {bs : Dis} {rs : Row} {rk : Str → Nat} {L : TB.Seen} {S : List Str} {far : Nat} {c : Nat}
end
end DL.K44
namespace DL.K07
open PySem PySem.Spec PyProof.Rows L2 DL.XP DL.UR
variable [TabC]
def m_bend : SM := (sFor (eRange1 (eCall 2 sp__law_take [] (up (fCons (fVar 1) (fCons (fC (.int 4)) fNil))))) (upG (fgNm 4)) (sSeq (sSet 6 (eCall 2 sp__law_one [] (up (fCons (fVar 1) (fCons (fVar 3) fNil))))) (sSeq (upS (fSet 8 (fLst (fCons (fC (.str "nobody")) (fCons (fC (.str "")) (fCons (fC .non) (fCons (fC (.int 5)) (fCons (fLst fNil) (fCons (fTup (fCons (fC (.str "clock")) (fCons (fC (.int 0)) fNil))) (fCons (fC (.bl true)) (fCons (fC (.str "Clock")) fNil))))))))))) (sDput 9 (up (fVar 6)) (eCall 2 sp__law_one [] (eCons (up (fVar 1)) (eCons (eBin dAdd (up (fBin dAdd (fVar 3) (fVar 3))) (eLst (eCons (eCall 2 sp__law_one [] (up (fCons (fVar 1) (fCons (fVar 8) fNil)))) (up fNil)))) (up fNil))))))))
def m_key : SM := (sToM 9 (sIf (tAndD (eBinT dEq (eCall 2 sp__law_take [] (up (fCons (fVar 1) (fCons (fC (.int 4)) fNil)))) (up (fC (.int 0)))) (up (fOrT (fVal (fBlt dIsi (fCons (fVar 5) (fCons (fC (.raw (.ty "str"))) fNil)))) (fBinT dNotIn (fVar 5) (fListValsO 9))))) (upS (fSetF 9 (fBlt dDictM (fCons (fBin dAdd (fListRows (fVar 9)) (fLst (fCons (fTup (fCons (fVar 5) (fCons (fC (.str "clock")) fNil))) fNil))) fNil)))) (upS fNilS)))
def m_waits : SM := (sForM (fun s => (s[9]?).join) keysM (upG (fgNm 6)) (sSeq (sMput 11 (up (fVar 6)) (eCall 2 sp__law_take [] (up (fCons (fVar 1) (fCons (fC (.int 9)) fNil))))) (sIf (eBinT dEq (eCall 2 sp__law_take [] (up (fCons (fVar 1) (fCons (fC (.int 12)) fNil)))) (up (fC (.int 0)))) (sMputN 11 10 (up (fVar 6)) (up (fBin dAdd (fVar 10) (fLst (fCons (fVar 6) fNil)))) (eCall 2 sp__law_one [] (up (fCons (fVar 1) (fCons (fLst (fCons (fNeg (fC (.int 1))) (fCons (fC .non) (fCons (fC (.str "1")) (fCons (fC (.bl true)) (fCons (fLst fNil) (fCons (fNeg (fC (.int 999999999))) fNil))))))) fNil))))) (upS fNilS))))
def m_pairs : FS := (fSetF 7 (fBlt dDictM (fCons (fLcM (fun s => (s[9]?).join) keysM [6] (fgNm 6) fYes (fTup (fCons (fVar 6) (fCons (fTup (fCons (fBin dIdxM (fVar 9) (fVar 6)) (fCons (fBin dIdxM (fVar 11) (fVar 6)) fNil))) fNil)))) fNil)))
def m_end : FS := (fSeq (fSetF 7 (fBlt dDictM (fCons (fLc (fIter (fVar 3)) [12] (fgNm 12) fYes (fTup (fCons (fVar 12) (fCons (fTup (fCons (fC (.str "clock")) (fCons (fC (.int 0)) fNil))) fNil)))) fNil))) (fSeq (fMput 7 (fVar 6) (fVar 8)) (fIfS (fNotT (fVal (fCall 2 f__law_same [] (fCons (fTried .drop [("BadRow", some 2, .fld "row" "name"), ("Round", some 2, .lst "round" "names")] [11] (fMake 2 f_Book___init__ [] (fCons (fVar 7) fNil))) (fCons (fTup (fCons (fC (.str "row")) (fCons (fVar 6) fNil))) fNil))))) (fRet (fC (.bl false))) fNilS)))
theorem dAdd_any {a b : List D} (h : a.length + b.length ≤ 1000) : dAdd (.lst a) (.lst b) = some (.lst (a ++ b)) := by
  show (if a.length + b.length ≤ LIM then some (D.lst (a ++ b)) else none) = _
  rw [if_pos (by unfold LIM; omega)]
theorem odd_v {d : D} (h : d ∈ ODDV) : d ∈ ALLV := List.mem_append_right _ h
theorem name_v {x : Str} (h : x ∈ NAMES) : (.str x : D) ∈ ALLV := List.mem_append_left _ (List.mem_cons_of_mem _ (List.mem_map.mpr ⟨x, h, rfl⟩))
theorem LOk.set {L : Vals} (h : LOk L) {x : Str} {a : D} (ha : a ∈ ALLV) : LOk (setR L x a) := by
  refine ⟨by rw [keys_set]; exact h.nd, by rw [keys_set]; exact h.nm, fun p hp => ?_, by rw [len_set]; exact h.len⟩
  unfold setR at hp
  obtain ⟨q, hq, rfl⟩ := List.mem_map.mp hp
  show (if q.1 = x then a else q.2) ∈ ALLV
  split
  · exact ha
  · exact h.v q hq
theorem bend_run {xs : List Str} (h0 : 0 < xs.length) (h5 : xs.length ≤ 5) (hx : ∀ x ∈ xs, x ∈ NAMES) {L0 : Vals} (hL : LOk L0) (hk : ∀ x ∈ xs, x ∈ keys L0) {n : Nat} (hn : n < 2 ^ 30) {x2 x4 x5 x6 x7 x8 x10 x11 x12 : Option D} {xq : XQ} {de : DE}
    (hq : ∀ (L : Vals) (n' : Nat) (y4 y6 y8 : Option D), LOk L → n ≤ n' → n' ≤ n + 10 → de.nx [none, some .st, x2, some (txs xs), y4, x5, y6, x7, y8, some (.dic (mapD id L)), x10, x11, x12] n') :
    m_bend xq de [none, some .st, x2, some (txs xs), x4, x5, x6, x7, x8, some (.dic (mapD id L0)), x10, x11, x12] n := by
  unfold m_bend
  refine forM (callM rfl rfl (take_run (by decide) (by decide) (by omega) fun r r0 r1 => ?_))
  obtain ⟨j, rfl⟩ := nat_of r0
  refine ⟨(j : Int), rfl, by unfold LIM; omega, by omega, ?_⟩
  rw [Int.toNat_natCast]
  refine sfor_acc (fun i : Nat => .int (i : Nat)) (fun acc s m => ∃ (L : Vals) (y4 y6 y8 : Option D), LOk L ∧ (∀ x ∈ xs, x ∈ keys L) ∧ m = n + 1 + 3 * acc.length ∧ s = [none, some .st, x2, some (txs xs), y4, x5, y6, x7, y8, some (.dic (mapD id L)), x10, x11, x12]) (List.range j) ⟨L0, x4, x6, x8, hL, hk, rfl, rfl⟩ ?_ ?_
  · rintro s' n' ⟨L, y4, y6, y8, h1, h2, rfl, rfl⟩
    rw [List.length_range]
    exact hq L _ y4 y6 y8 h1 (by omega) (by omega)
  · rintro acc d post s m de' e ⟨L, y4, y6, y8, h1, h2, rfl, rfl⟩ hq
    have hlt := len_pre e
    rw [List.length_range] at hlt
    have hll := h1.len
    refine ⟨_, rfl, seqM (setM (callM rfl rfl (one_strs h0 (by omega) (by omega) fun x hxm => ?_)))⟩
    dsimp only
    refine seqU (s' := [none, some .st, x2, some (txs xs), some (.int (d : Nat)), x5, some (.str x), x7, some (.lst ODDV), some (.dic (mapD id L)), x10, x11, x12]) rfl ?_
    refine dputM (callMM (consU rfl (consM (binUM (d := .lst (xs.map .str ++ xs.map .str)) (binE rfl rfl (dAdd_any (by rw [List.length_map]; omega))) ?_))))
    show eLst _ _ _ _ _
    unfold eLst
    refine consM (callM rfl rfl (one_run (by decide) (by decide) (by omega) fun o ho => nilU ⟨Nat.le_of_ble_eq_true rfl, .lst (xs.map .str ++ xs.map .str ++ [o]), dAdd_any (by rw [List.length_append, List.length_map]; simp; omega), nilU ⟨rfl, ?_⟩⟩))
    refine one_run (by rw [List.length_append]; simp) (by rw [List.length_append, List.length_append, List.length_map]; simp; omega) (by omega) fun v hv => ?_
    have va : v ∈ ALLV := by
      rcases List.mem_append.mp hv with z | z
      · rcases List.mem_append.mp z with z | z <;> (obtain ⟨y, hy, rfl⟩ := List.mem_map.mp z; exact name_v (hx y hy))
      · rw [List.mem_singleton.mp z]; exact odd_v ho
    refine ⟨.inr x, mapD id L, rfl, rfl, by unfold mapD; rw [List.length_map]; exact lim_of (by omega), ?_⟩
    have ep : putD (mapD id L) (.inr x) v = mapD id (setR L x v) := put_old (f := id) (h2 x hxm)
    rw [ep]
    exact hq _ _ ⟨setR L x v, _, _, _, h1.set va, fun y hy => by rw [keys_set]; exact h2 y hy, by rw [List.length_append, List.length_singleton]; omega, rfl⟩
end DL.K07
namespace DL.K07
open PySem PySem.Spec PyProof.Rows L2 DL.XP DL.UR
variable [TabC]
theorem key_run {L : Vals} (hL : LOk L) {k : D} (hk : k ∈ ODDK) {n : Nat} (hn : n < 2 ^ 30) {x2 x3 x4 x6 x7 x8 x10 x11 x12 : Option D} {xq : XQ} {de : DE}
    (hq : ∀ (R : List (D × D)) (n' : Nat), RowsO R → (R.map fun p => nkey p.1).Nodup → Apart R → R.length ≤ 6 → n ≤ n' → n' ≤ n + 1 → de.nx [none, some .st, x2, x3, x4, some k, x6, x7, x8, some (.dmx R), x10, x11, x12] n') :
    m_key xq de [none, some .st, x2, x3, x4, some k, x6, x7, x8, some (.dic (mapD id L)), x10, x11, x12] n := by
  obtain ⟨m1, m2, m3⟩ := mxL_rows hL
  have ml : (mxL L).length ≤ 6 := by unfold mxL; rw [List.length_map]; have := hL.len; omega
  have stay : ∀ n', n ≤ n' → n' ≤ n + 1 → (toMde 9 de).nx [none, some .st, x2, x3, x4, some k, x6, x7, x8, some (.dic (mapD id L)), x10, x11, x12] n' := fun n' a b => by
    refine .inl ⟨mapD id L, rfl, ?_⟩
    rw [mxL_eq]
    exact hq _ n' m1 m2 m3 ml a b
  unfold m_key
  show sIf (tAndD (eBinT dEq _ _) _) _ _ xq (toMde 9 de) _ n
  unfold sIf tAndD
  refine binTMU (y := .int 0) rfl (callM rfl rfl (take_run (by decide) (by decide) (by omega) fun r r0 r1 => ⟨(r == 0), dEq_int, ?_⟩)) (mn_call mn_up)
  have eL : fListValsO 9 [none, some .st, x2, x3, x4, some k, x6, x7, x8, some (.dic (mapD id L)), x10, x11, x12] = .ok (.lst (L.map (·.2))) := by
    refine (listValsOE (kvs := mapD id L) rfl).trans ?_
    unfold mapD
    rw [List.map_map]
    rfl
  have vk : okB 3 k = true := k_ok _ (odd_in hk)
  have kstr : dIsi [k, .raw (.ty "str")] = some (.bl (isS k)) := optIs_eq ((show ∀ k ∈ ODDK, optIs (dIsi [k, .raw (.ty "str")]) (isS k) = true by decide +kernel) k hk)
  have eB := or_not (s := [none, some .st, x2, x3, x4, some k, x6, x7, x8, some (.dic (mapD id L)), x10, x11, x12]) (valE (a := fBlt dIsi (fCons (fVar 5) (fCons (fC (.raw (.ty "str"))) fNil))) (k := isS k) (bltE (xs := [k, .raw (.ty "str")]) rfl kstr)) (binTE (a := fVar 5) (b := fListValsO 9) (f := dNotIn) (x := k) (y := .lst (L.map (·.2))) (k := !((L.map (·.2)).any fun v => pyEq v k)) rfl eL (by
    unfold dNotIn
    show ((if (okD k && okD (.lst (L.map (·.2)))) = true then some ((L.map (·.2)).any fun y => pyEq y k) else none).map fun b => D.bl (!b)) = _
    rw [(okB_ok vk).ok (by decide), ok_lst (fun d hd => by
      obtain ⟨p, hp, rfl⟩ := List.mem_map.mp hd
      exact v_ok _ (hL.v p hp))]
    rfl))
  cases hr : (r == 0) with
  | false =>
    simp only [Bool.false_eq_true, if_false]
    exact stay _ (by omega) (by omega)
  | true =>
    simp only [if_true]
    unfold up
    rw [eB]
    cases hb : (isS k || !((L.map (·.2)).any fun v => pyEq v k)) with
    | false =>
      simp only [Res.wp, Bool.false_eq_true, if_false]
      exact stay _ (by omega) (by omega)
    | true =>
      simp only [Res.wp, if_true]
      obtain ⟨a1, a2, a3⟩ := more_rows hL hk (fun z p hp => by
        rw [z, Bool.false_or, Bool.not_eq_true'] at hb
        have := List.any_eq_false.mp hb p.2 (List.mem_map.mpr ⟨p, hp, rfl⟩)
        simpa using this)
      have eit : itemsD (mapD id L) = (mxL L).map fun p => .tup [p.1, p.2] := by
        rw [items_map]
        unfold mxL
        rw [List.map_map]
        rfl
      have ed : fBlt dDictM (fCons (fBin dAdd (fListRows (fVar 9)) (fLst (fCons (fTup (fCons (fVar 5) (fCons (fC (.str "clock")) fNil))) fNil))) fNil) [none, some .st, x2, x3, x4, some k, x6, x7, x8, some (.dic (mapD id L)), x10, x11, x12] = .ok (.dmx (mxL L ++ [(k, D.str "clock")])) := by
        refine bltE (xs := [.lst ((mxL L ++ [(k, D.str "clock")]).map fun p => .tup [p.1, p.2])]) (consE (binE (x := .lst (itemsD (mapD id L))) (y := .lst [.tup [k, .str "clock"]]) (listRowsE (kvs := mapD id L) rfl) rfl ?_) rfl) (dDictM_of a1.k a2)
        rw [eit, List.map_append]
        exact dAdd_any (by rw [List.length_map]; simp; omega)
      refine upSN (setFE (show 9 < 13 by decide) ed) (.inr ⟨_, rfl, ?_⟩)
      exact hq _ _ a1 a2 a3 (by rw [List.length_append]; unfold mxL; rw [List.length_map]; have := hL.len; simp; omega) (by omega) (by omega)
/-! the waits -/
def wtT (T : List Tri) : List (D × D) := T.map fun t => (t.1, t.2.2)
theorem putM_last {a : List (D × D)} {k : MD.NK} {kd d0 d : D} (h : lookM a k = none) (hk : nkey kd = some k) : putM (a ++ [(kd, d0)]) k kd d = a ++ [(kd, d)] := by
  have hno : ∀ p ∈ a, nkey p.1 ≠ some k := fun p hp z => by
    have : (lookM a k).isSome = true := by rw [look_some?, List.any_eq_true]; exact ⟨p, hp, decide_eq_true z⟩
    rw [h] at this
    cases this
  unfold putM
  rw [if_pos (List.any_eq_true.mpr ⟨(kd, d0), List.mem_append_right _ (List.mem_singleton.mpr rfl), decide_eq_true hk⟩), List.map_append]
  congr 1
  · refine (List.map_congr_left fun p hp => ?_).trans (List.map_id' a)
    unfold setM_
    rw [if_neg (hno p hp)]
  · show [setM_ k d (kd, d0)] = _
    unfold setM_
    rw [if_pos hk]
theorem wt_num {i : Nat} (h : i < 9) : (.int (i : Nat) : D) ∈ ALLW := List.mem_append_left _ (List.mem_map.mpr ⟨i, List.mem_range.mpr h, rfl⟩)
theorem odds_snoc {T : List Tri} {t : Tri} : oddsT (T ++ [t]) = oddsT T ++ if okW t.2.2 = true then [] else [t.1] := by
  unfold oddsT
  rw [List.filter_append, List.map_append]
  congr 1
  cases h : okW t.2.2 <;> simp [List.filter, h]
theorem upO {f : FM D} {xq : XQ} {s : Ev} {n : Nat} {d : D} {Q : D → Nat → Prop} (h : f s = .ok d) (q : Q d n) : up f xq s n Q := by
  unfold up
  rw [h]
  exact q
theorem mputM {i : Nat} {m mk : EM D} {xq : XQ} {de : DE} {s : Ev} {n : Nat} (q : m xq s n fun d n1 => mk xq s n1 fun k n2 => ∃ kk kvs, mkey k = some kk ∧ s[i]? = some (some (.dmx kvs)) ∧ kvs.length < LIM ∧ de.nx (s.set i (some (.dmx (putM kvs kk k d)))) n2) : sMput i mk m xq de s n := q
theorem mputNM {i j : Nat} {mk ma mb : EM D} {xq : XQ} {de : DE} {s : Ev} {n : Nat} (q : ma xq s n fun d1 n1 => mb xq s n1 fun d2 n2 => mk xq (s.set j (some d1)) n2 fun k n3 => ∃ kk kvs, mkey k = some kk ∧ (s.set j (some d1))[i]? = some (some (.dmx kvs)) ∧ kvs.length < LIM ∧ de.nx ((s.set j (some d1)).set i (some (.dmx (putM kvs kk k d2)))) n3) : sMputN i j mk ma mb xq de s n := q
theorem waits_run {R : List (D × D)} (O : RowsO R) (hnd : (R.map fun p => nkey p.1).Nodup) (h6 : R.length ≤ 6) {n : Nat} (hn : n < 2 ^ 30) {x2 x3 x4 x5 x6 x7 x8 x12 : Option D} {xq : XQ} {de : DE}
    (hq : ∀ (T : List Tri) (n' : Nat) (y6 : Option D), TriO T → rowsT T = R → n ≤ n' → n' ≤ n + 18 → de.nx [none, some .st, x2, x3, x4, x5, y6, x7, x8, some (.dmx R), some (.lst (oddsT T)), some (.dmx (wtT T)), x12] n') :
    m_waits xq de [none, some .st, x2, x3, x4, x5, x6, x7, x8, some (.dmx R), some (.lst []), some (.dmx []), x12] n := by
  unfold m_waits
  refine ⟨R, rfl, ?_⟩
  show sForL (upG (fgNm 6)) _ xq de (R.map fun p => p.1) _ n
  refine sfor_acc (fun p : D × D => p.1) (fun acc s m => ∃ (T : List Tri) (y6 : Option D), rowsT T = acc ∧ (∀ t ∈ T, t.2.2 ∈ ALLW) ∧ n ≤ m ∧ m ≤ n + 3 * acc.length ∧ s = [none, some .st, x2, x3, x4, x5, y6, x7, x8, some (.dmx R), some (.lst (oddsT T)), some (.dmx (wtT T)), x12]) R ⟨[], x6, rfl, (fun _ z => nomatch z), Nat.le_refl _, Nat.le_refl _, rfl⟩ ?_ ?_
  · rintro s' n' ⟨T, y6, e, hw, g1, g2, rfl⟩
    refine hq T n' y6 ⟨fun t ht => ?_, fun t ht => ?_, hw, ?_⟩ e g1 (by omega)
    · exact O.k _ (e ▸ List.mem_map.mpr ⟨t, ht, rfl⟩ : (t.1, t.2.1) ∈ R)
    · exact O.v _ (e ▸ List.mem_map.mpr ⟨t, ht, rfl⟩ : (t.1, t.2.1) ∈ R)
    · have : (rowsT T).length = T.length := List.length_map _
      rw [← this, e]
      exact O.len
  · rintro acc p post s m de' e ⟨T, y6, ea, hw, g1, g2, rfl⟩ hq
    have hlt := len_pre e
    have hp : p ∈ R := by rw [← e]; exact List.mem_append_right _ List.mem_cons_self
    obtain ⟨kk, hk1⟩ := Option.isSome_iff_exists.mp (k_key _ (O.k p hp))
    have hk2 := (mkey_of hk1).1
    have lT : (wtT T).length = acc.length := by
      rw [← ea]
      unfold wtT rowsT
      rw [List.length_map, List.length_map]
    have hno : lookM (wtT T) kk = none := no_look fun q hq z => by
      obtain ⟨t, ht, rfl⟩ := List.mem_map.mp hq
      have hm : (t.1, t.2.1) ∈ acc := ea ▸ List.mem_map.mpr ⟨t, ht, rfl⟩
      rw [← e, List.map_append, List.nodup_append] at hnd
      exact hnd.2.2 _ (List.mem_map.mpr ⟨_, hm, rfl⟩) _ (List.mem_map.mpr ⟨p, List.mem_cons_self, rfl⟩) (by
        show nkey t.1 = nkey p.1
        rw [z, hk2])
    refine ⟨_, rfl, seqM ?_⟩
    refine mputM (callM rfl rfl (take_run (by decide) (by decide) (by omega) fun r r0 r1 => upO (d := p.1) rfl ⟨kk, wtT T, hk1, rfl, by rw [lT]; exact lim_of (by omega), ?_⟩))
    obtain ⟨i, rfl⟩ := nat_of r0
    have hi9 : i < 9 := by omega
    rw [put_newM hno]
    dsimp only
    show sIf (eBinT dEq _ _) _ _ xq de' [none, some .st, x2, x3, x4, x5, some p.1, x7, x8, some (.dmx R), some (.lst (oddsT T)), some (.dmx (wtT T ++ [(p.1, .int (i : Nat))])), x12] _
    unfold sIf
    refine binTMU (y := .int 0) rfl (callM rfl rfl (take_run (by decide) (by decide) (by omega) fun r' _ _ => ⟨(r' == 0), dEq_int, ?_⟩)) (mn_call mn_up)
    have fin : ∀ (w : D) (n' : Nat), w ∈ ALLW → n ≤ n' → n' ≤ n + 3 * (acc.length + 1) → de'.nx [none, some .st, x2, x3, x4, x5, some p.1, x7, x8, some (.dmx R), some (.lst (oddsT T ++ if okW w = true then [] else [p.1])), some (.dmx (wtT T ++ [(p.1, w)])), x12] n' := fun w n' hw' a b => by
      refine hq _ _ ⟨T ++ [(p.1, p.2, w)], some p.1, ?_, fun t ht => ?_, a, by rw [List.length_append, List.length_singleton]; exact b, ?_⟩
      · unfold rowsT at ea ⊢
        rw [List.map_append, ea]
        rfl
      · rcases List.mem_append.mp ht with z | z
        · exact hw t z
        · rw [List.mem_singleton.mp z]; exact hw'
      · rw [odds_snoc]
        unfold wtT
        rw [List.map_append]
        rfl
    cases hr : (r' == 0) with
    | false =>
      simp only [Bool.false_eq_true, if_false]
      have := fin (.int (i : Nat)) (n' := _) (wt_num hi9) (show n ≤ m + 1 + 1 by omega) (by omega)
      rw [if_pos (w_num i hi9), List.append_nil] at this
      exact this
    | true =>
      simp only [if_true]
      refine mputNM (upO (d := .lst (oddsT T ++ [p.1])) (binE (x := .lst (oddsT T)) (y := .lst [p.1]) rfl rfl (dAdd_any ?_)) (callM rfl rfl (one_run (xs := ODDW) (by decide) (by decide) (by omega) fun w hw' => upO (d := p.1) rfl ⟨kk, wtT T ++ [(p.1, .int (i : Nat))], hk1, rfl, by rw [List.length_append, lT]; exact lim_of (by simp; omega), ?_⟩)))
      · unfold oddsT
        rw [List.length_map]
        have h1 := List.length_filter_le (fun t : Tri => !okW t.2.2) T
        have h2 : (wtT T).length = T.length := List.length_map _
        simp
        omega
      · rw [putM_last hno hk2]
        have := fin w (n' := m + 1 + 1 + 1) (List.mem_append_right _ hw') (by omega) (by omega)
        rw [if_neg (by rw [w_odd w hw']; decide)] at this
        exact this
end DL.K07
namespace DL.K07
open PySem PySem.Spec PyProof.Rows L2 DL.XP DL.UR
variable [TabC]
theorem idx_any {W : List (D × D)} (hn : (W.map fun p => nkey p.1).Nodup) {p : D × D} (hk : p.1 ∈ ALLK) (hp : p ∈ W) : dIdxM (.dmx W) p.1 = some p.2 := by
  obtain ⟨k, hk⟩ := Option.isSome_iff_exists.mp (k_key _ hk)
  unfold dIdxM
  try dsimp only
  rw [hk]
  exact look_atM hn hp (mkey_of hk).1
theorem wt_nk {T : List Tri} : (wtT T).map (fun p => nkey p.1) = (rowsT T).map fun p => nkey p.1 := by
  unfold wtT rowsT
  rw [List.map_map, List.map_map]
  rfl
theorem pr_nk {T : List Tri} : (prsT T).map (fun p => nkey p.1) = (rowsT T).map fun p => nkey p.1 := by
  unfold prsT rowsT
  rw [List.map_map, List.map_map]
  rfl
theorem pairs_run {T : List Tri} (O : TriO T) (hn : ((rowsT T).map fun p => nkey p.1).Nodup) {x2 x3 x4 x5 x6 x7 x8 x10 x12 : Option D} :
    m_pairs [none, some .st, x2, x3, x4, x5, x6, x7, x8, some (.dmx (rowsT T)), x10, some (.dmx (wtT T)), x12] = .nx [none, some .st, x2, x3, x4, x5, x6, some (.dmx (prsT T)), x8, some (.dmx (rowsT T)), x10, some (.dmx (wtT T)), x12] := by
  unfold m_pairs
  refine setFE (d := .dmx (prsT T)) (show 7 < 13 by decide) (bltE (xs := [.lst ((prsT T).map fun p => .tup [p.1, p.2])]) (consE ?_ rfl) (dDictM_of (fun p hp => ?_) (by rw [pr_nk]; exact hn)))
  · refine TB.lcME (kvs := rowsT T) rfl (by unfold keysM rowsT; rw [List.length_map, List.length_map]; have := O.len; unfold LIM; omega) ?_
    have e1 : keysM (rowsT T) = T.map fun t => t.1 := by
      unfold keysM rowsT
      rw [List.map_map]
      rfl
    have e2 : ((prsT T).map fun p => D.tup [p.1, p.2]) = T.map fun t => D.tup [t.1, .tup [t.2.1, t.2.2]] := by
      unfold prsT
      rw [List.map_map]
      rfl
    rw [e1, e2]
    refine lc_map (fun t : Tri => t.1) (fun t => .tup [t.1, .tup [t.2.1, t.2.2]]) T fun t ht => ⟨_, rfl, ?_⟩
    refine tupE (ds := [t.1, .tup [t.2.1, t.2.2]]) (consE rfl (consE (tupE (ds := [t.2.1, t.2.2]) (consE (binE (x := .dmx (rowsT T)) (y := t.1) rfl rfl (idx_any (p := (t.1, t.2.1)) hn (O.k t ht) (List.mem_map.mpr ⟨t, ht, rfl⟩))) (consE (binE (x := .dmx (wtT T)) (y := t.1) rfl rfl (idx_any (p := (t.1, t.2.2)) (by rw [wt_nk]; exact hn) (O.k t ht) (List.mem_map.mpr ⟨t, ht, rfl⟩))) rfl)) (Nat.le_of_ble_eq_true rfl)) rfl)) (Nat.le_of_ble_eq_true rfl)
  · obtain ⟨t, ht, rfl⟩ := List.mem_map.mp hp
    exact O.k t ht
/-! the last look -/
def clk0 : D := .tup [.str "clock", .int 0]
def oneP (xs : List Str) (x : Str) (o : D) : List (D × D) := xs.map fun y => (.str y, if y = x then o else clk0)
theorem one_keys (xs : List Str) (x : Str) (o : D) : keysM (oneP xs x o) = xs.map .str := by
  unfold keysM oneP
  rw [List.map_map]
  rfl
theorem v_book_odd {xs : List Str} (hx : ∀ y ∈ xs, y ∈ NAMES) {x : Str} (hm : x ∈ xs) {o : D} (ho : o ∈ ODDB) : f_Book___init__ [.dmx (oneP xs x o)] = .ex (BadRowE (.str x)) := by
  have hk : ∀ k ∈ keysM (oneP xs x o), k ∈ ALLK := fun k hk => by
    rw [one_keys] at hk
    obtain ⟨y, hy, rfl⟩ := List.mem_map.mp hk
    exact name_in (hx y hy)
  have L := find_loopT (g := fgTp (fgsCons (fgNm 2) (fgsCons (fgNm 3) fgsNil))) (b := b_Book___init___1) (S := fun s => ∃ x2 x3, s = [some (.obj "Book" []), some (.dmx (oneP xs x o)), x2, x3]) (f := fun y : Str => .tup [.str y, if y = x then o else clk0]) (bad := fun y => decide (y = x)) (x := fun y => .ex (BadRowE (.str y))) (fun _ _ z => nomatch z) (fun _ _ z => nomatch z) (fun _ _ z => nomatch z) xs [some (.obj "Book" []), some (.dmx (oneP xs x o)), none, none] ⟨_, _, rfl⟩ (fun y hy s ⟨x2, x3, hs⟩ => by
    subst hs
    refine ⟨_, rfl, ?_⟩
    have hnm : isN (.str y) = true := List.contains_iff_mem.mpr (hx y hy)
    by_cases e : y = x
    · rw [if_pos (decide_eq_true e), if_pos e]
      have tt := or_not (s := [some (.obj "Book" []), some (.dmx (oneP xs x o)), some (.str y), some o]) (notTE (valE (callE (l := fCons (fVar 2) fNil) (ds := [.str y]) rfl rfl (k_name _ (name_in (hx y hy)))))) (notTE (valE (callE (l := fCons (fVar 3) (fCons (fVar 1) fNil)) (ds := [o, .dmx (oneP xs x o)]) rfl rfl (odd_row ho))))
      rw [hnm] at tt
      exact ifsT tt (raiseE (ds := [.str y]) rfl rfl)
    · rw [if_neg (by rw [decide_eq_false e]; decide), if_neg e]
      have tt := or_not (s := [some (.obj "Book" []), some (.dmx (oneP xs x o)), some (.str y), some clk0]) (notTE (valE (callE (l := fCons (fVar 2) fNil) (ds := [.str y]) rfl rfl (k_name _ (name_in (hx y hy)))))) (notTE (valE (callE (l := fCons (fVar 3) (fCons (fVar 1) fNil)) (ds := [clk0, .dmx (oneP xs x o)]) rfl rfl (v_book_rowM (v := .str "clock") (w := .int (0 : Nat)) hk clock_v (wt_num (by decide))))))
      rw [hnm, show (anc0 (keysM (oneP xs x o)) (.str "clock") && okW (.int (0 : Nat))) = true from rfl] at tt
      exact ⟨_, ifsF tt rfl, _, _, rfl⟩)
  have ef : xs.find? (fun y => decide (y = x)) = some x := by
    cases h : xs.find? (fun y => decide (y = x)) with
    | none => exact absurd (decide_eq_true rfl) (List.find?_eq_none.mp h x hm)
    | some y =>
      have := List.find?_some h
      rw [of_decide_eq_true this]
  rw [ef] at L
  have er : rowsM (oneP xs x o) = xs.map fun y => .tup [.str y, if y = x then o else clk0] := by
    unfold rowsM oneP
    rw [List.map_map]
    rfl
  exact runI_ex (seqX (TB.forME (kvs := oneP xs x o) rfl (by rw [er]; exact L)))
theorem end_run {xs : List Str} (h5 : xs.length ≤ 5) (hnd : xs.Nodup) (hx : ∀ y ∈ xs, y ∈ NAMES) {x : Str} (hm : x ∈ xs) {o : D} (ho : o ∈ ODDB) {x2 x4 x5 x7 x9 x10 x11 x12 : Option D} :
    m_end [none, some .st, x2, some (txs xs), x4, x5, some (.str x), x7, some o, x9, x10, x11, x12] = .nx [none, some .st, x2, some (txs xs), x4, x5, some (.str x), some (.dmx (oneP xs x o)), some o, x9, x10, x11, x12] := by
  unfold m_end
  have base : (xs.map fun y => ((.str y : D), clk0)).map (fun p => nkey p.1) = xs.map fun y => some (NestedKey.text y) := by
    rw [List.map_map]
    rfl
  refine seqN (setFE (d := .dmx (xs.map fun y => (.str y, clk0))) (show 7 < 13 by decide) (bltE (xs := [.lst ((xs.map fun y => ((.str y : D), clk0)).map fun p => .tup [p.1, p.2])]) (consE (lcE (ds := xs.map .str) rfl (by rw [List.length_map]; unfold LIM; omega) ?_) rfl) (dDictM_of (fun p hp => ?_) (by rw [base]; exact nd_text hnd)))) ?_
  · rw [List.map_map]
    exact lc_map D.str (fun y => .tup [.str y, clk0]) xs fun y hy => ⟨_, rfl, rfl⟩
  · obtain ⟨y, hy, rfl⟩ := List.mem_map.mp hp
    exact name_in (hx y hy)
  have ep : putM (xs.map fun y => ((.str y : D), clk0)) (NestedKey.text x) (.str x) o = oneP xs x o := by
    unfold putM oneP
    rw [if_pos (List.any_eq_true.mpr ⟨(.str x, clk0), List.mem_map.mpr ⟨x, hm, rfl⟩, decide_eq_true rfl⟩), List.map_map]
    refine List.map_congr_left fun y hy => ?_
    show setM_ _ _ (.str y, clk0) = _
    unfold setM_
    by_cases e : y = x
    · rw [if_pos e, if_pos (by rw [e]; rfl)]
    · rw [if_neg e, if_neg fun z => e (by
        have z : some (NestedKey.text y) = some (NestedKey.text x) := z
        cases z
        rfl)]
  refine seqN ((mputE (kk := NestedKey.text x) (kvs := xs.map fun y => ((.str y : D), clk0)) (d := o) (kd := .str x) rfl rfl (mkey_s x) rfl (by rw [List.length_map]; exact lim_of (by omega))).trans (by rw [ep])) ?_
  refine ifsF (notTE (valE (callE (ds := [.tup [.str "row", .str x], .tup [.str "row", .str x]]) (consE ?_ (consE rfl rfl)) rfl (same_d (pl_row (name_in (hx x hm))))))) rfl
  have mk : ∀ s : Ev, fVar 7 s = .ok (.dmx (oneP xs x o)) → fMake 2 f_Book___init__ [] (fCons (fVar 7) fNil) s = .ex (BadRowE (.str x)) := fun s h => by
    have e : fMake 2 f_Book___init__ [] (fCons (fVar 7) fNil) s = (f_Book___init__ [.dmx (oneP xs x o)]).bind fun d => if isObj d = true then .ok d else .bad := by
      unfold fMake
      rw [consE h rfl]
      rfl
    rw [e, v_book_odd hx hm ho]
    rfl
  exact triedX (x := BadRowE (.str x)) (mk _ rfl) rfl rfl
theorem M_law : B_law (fun _ _ => False) { nx := fun _ _ => False, rt := fun d _ => d = .bl true } (none :: some .st :: List.replicate (N_law.length - 2) none) 0 := by
  unfold B_law
  refine seqM (forU (i := fRange1 (fC (.int 8))) (ds := (List.range 8).map fun i => .int (i : Nat)) rfl ?_)
  refine sfor_acc (fun i : Nat => .int (i : Nat)) (fun acc s n => n ≤ 200 * acc.length ∧ ∃ x2 x3 x4 x5 x6 x7 x8 x9 x10 x11 x12 : Option D, s = [none, some .st, x2, x3, x4, x5, x6, x7, x8, x9, x10, x11, x12]) (List.range 8) ⟨Nat.le_refl _, _, _, _, _, _, _, _, _, _, _, _, rfl⟩ (fun s' n' _ => rfl) ?_
  rintro acc turn post s n de' e ⟨hn, x2, x3, x4, x5, x6, x7, x8, x9, x10, x11, x12, rfl⟩ hq
  have hlt := len_pre e
  rw [List.length_range] at hlt
  refine ⟨_, rfl, ?_⟩
  refine seqM (setM (callMM (consU rfl (consM (binUM (d := .int 1) rfl (callM rfl rfl (take_run (by decide) (by decide) (by omega) fun r r0 r1 => ⟨.int (1 + r), rfl, nilU ⟨rfl, ?_⟩⟩)))))))
  obtain ⟨j, rfl⟩ := nat_of r0
  have ej : (1 + (j : Int)) = ((1 + j : Nat) : Int) := by omega
  rw [ej]
  refine ⟨1 + j, rfl, by omega, fun ys hys => ?_⟩
  obtain ⟨xs, hxs⟩ : ∃ xs, xs = ys.take (1 + j) := ⟨_, rfl⟩
  rw [← hxs]
  have yl : ys.length = 16 := hys.length_eq
  have xl : xs.length = 1 + j := by rw [hxs, List.length_take, yl]; omega
  have xnd : xs.Nodup := hxs ▸ (hys.nodup_iff.mpr (by decide +kernel : NAMES.Nodup)).sublist (List.take_sublist _ _)
  have xnm : ∀ x ∈ xs, x ∈ NAMES := fun x hx => hys.mem_iff.mp (List.mem_of_mem_take (hxs ▸ hx))
  try dsimp only
  refine seqM ⟨show 9 < 13 by decide, show 11 < 13 by decide, callM rfl rfl ⟨xs, rfl, by omega, xnd, fun x hx => (names_good (xnm x hx)).ok, by omega, fun l hp hh => upO (d := .lst []) rfl (upO (d := .dmx []) rfl ?_)⟩⟩
  have hp : (keys l).Perm xs := hp
  have ll : l.length = xs.length := by rw [← hp.length_eq, List.length_map]
  let L0 : Vals := l.map fun p => (p.1, .str p.2)
  have e0 : mapD D.str l = mapD id L0 := by
    show _ = (l.map fun p => (p.1, D.str p.2)).map _
    unfold mapD
    rw [List.map_map]
    rfl
  have k0 : keys L0 = keys l := by
    show (l.map fun p => (p.1, D.str p.2)).map _ = _
    rw [List.map_map]
    rfl
  have hL : LOk L0 := by
    refine ⟨by rw [k0]; exact hp.nodup_iff.mpr xnd, fun x hx => xnm x (hp.mem_iff.mp (k0 ▸ hx)), fun p hp' => ?_, by show (l.map _).length ≤ 5; rw [List.length_map]; omega⟩
    obtain ⟨q, hq', rfl⟩ := List.mem_map.mp hp'
    obtain ⟨pre, post, el, z⟩ := hung_split hh q.1 q.2 hq'
    rcases z with z | z
    · show (D.str q.2) ∈ ALLV
      rw [z]; exact clock_v
    · refine name_v (xnm _ (hp.mem_iff.mp ?_))
      rw [List.nil_append] at z
      rw [el]
      unfold keys at z ⊢
      rw [List.map_append]
      exact List.mem_append_left _ z
  rw [e0]
  try dsimp only
  refine seqM (bend_run (by omega) (by omega) xnm hL (fun x hx => by rw [k0]; exact hp.mem_iff.mpr hx) (by omega) fun L n1 y4 y6 y8 hL1 g1 g2 => ?_)
  try dsimp only
  refine seqM (setM (callM rfl rfl (one_run (xs := ODDK) (by decide) (by decide) (by omega) fun k hk => ?_)))
  try dsimp only
  refine seqM (key_run hL1 hk (by omega) fun R n2 O hnd A h6 g3 g4 => ?_)
  try dsimp only
  refine seqU (ifsF (hang_same (R := R) (O := [11]) rfl rfl O hnd A) rfl) ?_
  refine seqM (waits_run O hnd h6 (by omega) fun T n3 y6 To eT g5 g6 => ?_)
  subst eT
  try dsimp only
  refine seqU (pairs_run To hnd) ?_
  refine seqU (ifsF (book_same (T := T) (O := [11]) rfl rfl rfl To hnd A) rfl) ?_
  try dsimp only
  refine seqM (setM (callM rfl rfl (one_strs (by omega) (by omega) (by omega) fun x hx => ?_)))
  try dsimp only
  refine seqM (setM (callM rfl rfl (one_run (xs := ODDB) (by decide) (by decide) (by omega) fun o ho => ?_)))
  try dsimp only
  refine upSN (end_run (by omega) xnd xnm hx ho) (hq _ _ ⟨by rw [List.length_append, List.length_singleton]; omega, _, _, _, _, _, _, _, _, _, _, _, rfl⟩)
end DL.K07
namespace DL
open PySem PySem.Spec PyProof.Rows L2
/-- what may leave, of any program and world -/
def CXU : CXT := fun outer H s E e s' => ∃ P w, CX P w outer H s E e s'
theorem cx_end (H : Hp) (s : Shared) (e : Value) (s' : Shared) (h : CXU [] H s (fun _ _ _ => False) e s') : False := by
  obtain ⟨_, _, _, _, _, _, _, _, _, _, _, _, _, _, z⟩ := h
  exact z
theorem map3 {α β γ δ : Type} {o : Option α} {f : α → β} {g : α → γ} {h : α → δ} {a : β} {b : γ} {c : δ} (h1 : o.map f = some a) (h2 : o.map g = some b) (h3 : o.map h = some c) : o.map (fun s => (f s, g s, h s)) = some (a, b, c) := by
  cases o with
  | none => cases h1
  | some s => rw [Option.map_some, Option.some.inj h1, Option.some.inj h2, Option.some.inj h3]
end DL
namespace DL
/-- the state's words, in two halves -/
theorem map22 {S X Y U V : Type} {o : Option S} {f : S → ((X × Y) × U) × V} {x : X} {y : Y} {u : U} {v : V} (h1 : o.map (fun s => (f s).1.1.2) = some y) (h2 : o.map (fun s => ((f s).1.1.1, (f s).1.2, (f s).2)) = some (x, u, v)) : o.map f = some (((x, y), u), v) := by
  cases o with
  | none => cases h1
  | some s =>
    have e1 : (f s).1.1.2 = y := Option.some.inj h1
    have e2 : ((f s).1.1.1, (f s).1.2, (f s).2) = (x, u, v) := Option.some.inj h2
    show some (f s) = _
    cases e1
    cases e2
    rfl
end DL
namespace DL
open PySem PySem.Spec PyProof.Rows L2
variable [TabC]
/-! ### [..] * k -/
end DL
namespace DL.K07
open PySem PySem.Spec PyProof.Rows L2 HX
abbrev hk : PySem.W.Hook := hookS R.prog 6 fa fn er tf ex sf
theorem ob_eq (s : PySem.W.SharedT) : ob s = hk.obs s.abs := obsS_eq (HandSHeadRun.getT_eq s)
theorem run_c (w : World) (os : OsState) : (endS w os).map ob = some (hk.val w) := map22 (run_c1 w os) (run_c2 w os)
theorem run (w : World) : HandSHeadRun.RunEq R vw hk ob 20000 loose w := fun os => map3 (run_a w os) (run_b w os) (run_c w os)
def tabK (K : PySem.W.Frag) (w : World) : TabC := ⟨[((He.cT K ("law", none)).2, (envOfC "law" (defScope (top 42)) 0 0 .none).qual ++ "<lambda>")], w⟩
theorem tab_in {K : PySem.W.Frag} {w : World} {p : Addr × Str} (hp : p ∈ (tabK K w).T) : ∃ d ∈ tf, p.1 = (He.cT K d).2 := by
  unfold tabK at hp
  simp only [List.mem_cons, List.not_mem_nil, or_false] at hp
  rcases hp with hp
  · exact ⟨("law", none), by simp [tf], by rw [hp]⟩
abbrev spL (K : PySem.W.Frag) (w : World) : Sp := @spLaw (tabK K w) K
theorem scTake : FnScope ["_law_state", "_law_many", "_law_cell", "_law_digit", "_law_mixed"] ["_law_state", "_law_many"] (defScope (top 32)) := ⟨rfl, rfl, rfl, by decide +kernel, rfl, by decide +kernel, by decide +kernel⟩
theorem scFresh : FnScope ["_law_script"] ["_law_script"] (defScope (top 31)) := ⟨rfl, rfl, rfl, by decide +kernel, rfl, by decide +kernel, by decide +kernel⟩
theorem ok_take [TabC] {P : Program} {w : World} {K : PySem.W.Frag} {mg : Str → Option Value} {base : Heap} {f : Addr} {fd : FuncData} (F : FunD K "_law_take" "_law_take" (defArgs (top 32)) (defBody (top 32)) (defScope (top 32)) [] [] f fd) (hg : mg "_law_take" = some (.ref f)) (f_len : mg "len" = none) (f_abs : mg "abs" = none) (f_int : mg "int" = none) :
    GFn P w K mg base "_law_take" 1 ["_law_state", "_law_many"] (lift K 2 sp__law_take) := by
  refine ⟨f, fd, hg, F.kp, F.bindsN (fun _ _ _ _ _ _ us hl => match us, hl with | [_, _], _ => rfl), FnOk.loud (F.ok scTake (fun vs H Q E h => ?_) (fun cdv A outer s H vs Q E hr h => ⟨t_take K, PSs.nox ?_, pure_take _ vs H Q E h⟩))⟩
  · obtain ⟨aS, A0, ds, n, xq, hl, r, _⟩ := h
    rw [r.length, hl]
    rfl
  · unfold t_take tPut tS
    exact pss_cons (ps_asg (pe_op op_add (pe_ix ix_list (pv 0) pe_int (fun _ _ => rfl)) pe_int) (pg_sub (pv 0) pe_int set_list)) (pss_cons (ps_while PassesOwn.never (PW.pt (pw_and (pt_cmpR op_eq (pe_ix ix_list (pv 0) pe_int (fun _ _ => rfl)) pe_int (nomark _)) (pw_and1 (pt_cmpR op_lt (pe_ix ix_list (pv 0) pe_int (fun _ _ => rfl)) (pe_callB call_len rfl f_len boot_len (pa_cons (pe_ix ix_list (pv 0) pe_int (fun _ _ => rfl)) pa_nil)) (nomark _))))) (pss_cons (ps_set (i := 2) scTake.nd rfl (.inl rfl) (pe_callB call_abs rfl f_abs boot_abs (pa_cons (pe_ix ix_list (pe_ix ix_list (pv 0) pe_int (fun _ _ => rfl)) (pe_ix ix_list (pv 0) pe_int (fun _ _ => rfl)) (fun _ _ => rfl)) pa_nil))) (pss_cons (ps_asg (pe_op op_add (pe_ix ix_list (pv 0) pe_int (fun _ _ => rfl)) pe_int) (pg_sub (pv 0) pe_int set_list)) (pss_one (ps_if (pt_cmpR op_ge (pv 2) (pe_op op_pow pe_int pe_int) (nomark _)) (pss_one (ps_asg (pv 2) (pg_sub (pv 0) pe_int set_list))) (pss_one (ps_asg (pe_op op_mod (pe_callTy call_int1 rfl f_int boot_int (pa_cons (pe_op op_add (pe_op op_add (pe_op op_mul (pe_ix ix_list (pv 0) pe_int (fun _ _ => rfl)) pe_int) (pv 2)) pe_int) pa_nil)) pe_int) (pg_sub (pv 0) pe_int set_list)))))))) (pss_cons (ps_if (pt_cmpR op_gt (pe_ix ix_list (pv 0) pe_int (fun _ _ => rfl)) pe_int (nomark _)) (pss_cons (ps_set (i := 3) scTake.nd rfl (.inl rfl) (pe_op op_mod (pe_callTy call_int1 rfl f_int boot_int (pa_cons ((pe_ix ix_list (pv 0) pe_int (fun _ _ => rfl))) pa_nil)) (pv 1))) (pss_cons (ps_asg (pe_op op_fdivW (pe_ix ix_list (pv 0) pe_int (fun _ _ => rfl)) (pv 1)) (pg_sub (pv 0) pe_int set_list)) (pss_one (ps_ret (pv 3))))) pss_nil) (pss_cons (ps_set (i := 4) scTake.nd rfl (.inl rfl) (pe_op op_mod (pe_callTy call_int1 rfl f_int boot_int (pa_cons (pe_op op_pow (pe_op op_add (pe_op op_add (pe_ix ix_list (pv 0) pe_int (fun _ _ => rfl)) (pe_op op_mul pe_int (pe_ix ix_list (pv 0) pe_int (fun _ _ => rfl)))) pe_int) pe_int) pa_nil)) pe_int)) (pss_cons (ps_set (i := 4) scTake.nd rfl (.inl rfl) (pe_op op_mod (pe_callTy call_int1 rfl f_int boot_int (pa_cons (pe_op op_pow (pe_op op_add (pv 4) (pe_op op_mul pe_int (pe_ix ix_list (pv 0) pe_int (fun _ _ => rfl)))) pe_int) pa_nil)) pe_int)) (pss_one (ps_ret (pe_op op_mod (pe_callTy call_int1 rfl f_int boot_int (pa_cons (pe_op op_fdivW (pv 4) pe_int) pa_nil)) (pv 1))))))))
theorem ok_fresh [TabC] {P : Program} {w : World} {K : PySem.W.Frag} {mg : Str → Option Value} {base : Heap} {f : Addr} {fd : FuncData} (F : FunD K "_law_fresh" "_law_fresh" (defArgs (top 31)) (defBody (top 31)) (defScope (top 31)) [] [] f fd) (hg : mg "_law_fresh" = some (.ref f)) (f_list : mg "list" = none) : ∃ f fd, mg "_law_fresh" = some (.ref f) ∧ PySem.W.keepIn K (.ref f) = true ∧ Binds K fd ["_law_script"] [] ∧ FnOk P w K mg base CX0 1 f fd ["_law_script"] (spFresh K) := by
  refine ⟨f, fd, hg, F.kp, F.bindsN (fun _ _ _ _ _ _ us hl => match us, hl with | [_], _ => rfl), F.ok scFresh (fun vs H Q E h => ?_) (fun cdv A outer s H vs Q E hr h => ⟨t_fresh K, PSs.nox ?_, pure_fresh vs H Q E h⟩)⟩
  · obtain ⟨a, ns, rfl, _⟩ := h
    rfl
  · unfold t_fresh
    exact pss_one (ps_ret (pe_lst (pa_cons (pe_callTy call_list_of rfl f_list boot_list (pa_cons (pe_slice sl_list (pv 0) po_none (po_some pe_int)) pa_nil)) (pa_cons pe_int (pa_cons pe_int (pa_cons pe_int (pa_cons pe_int pa_nil)))))))
theorem facts {P : Program} {w : World} {K : PySem.W.Frag} {h : Heap} {mg : Str → Option Value} {f : Addr} (X : K.In h) (G : h.Ns mainGlobals mg) (hfa : mg ("law" : Str) = some (.ref f)) (c : SaysS P fa fn er tf ex sf w h K) (ht : (P.main.scope.names.lookup ("super" : Str)).isSome = false) :
    ∃ fd : FuncData, (∀ (s : Shared) (v : Value), BindsTo s fd ⟨[v], []⟩ [("_law_script", v)]) ∧ ∀ base : Heap, K.In base → base.Ns mainGlobals mg → (∀ p ∈ tf, LamX.TabB base mg (He.cT K p).1 (He.cT K p).2) → FnOk P w K mg base (CX P w) k_law f fd ["_law_script"] (spL K w) := by
  letI : TabC := tabK K w
  have hw : w = TabC.w := rfl
  have cd : He.SaysD fa fn K := c.d
  have fc := fun (i : Nat) {f : He.Fa} (e : fa[i]? = some f) => cd.fact i e
  have gl__law_fresh : mg "_law_fresh" = some (.ref (He.ga K "_law_fresh")) := He.glo_ok X G (fc 0 rfl)
  have gl__law_tried : mg "_law_tried" = some (.ref (He.ga K "_law_tried")) := He.glo_ok X G (fc 1 rfl)
  have gl__law_take : mg "_law_take" = some (.ref (He.ga K "_law_take")) := He.glo_ok X G (fc 2 rfl)
  have gl__law_mix : mg "_law_mix" = some (.ref (He.ga K "_law_mix")) := He.glo_ok X G (fc 3 rfl)
  have gl__law_names : mg "_law_names" = some (.ref (He.ga K "_law_names")) := He.glo_ok X G (fc 4 rfl)
  have gl__law_one : mg "_law_one" = some (.ref (He.ga K "_law_one")) := He.glo_ok X G (fc 5 rfl)
  have gl__law_hung : mg "_law_hung" = some (.ref (He.ga K "_law_hung")) := He.glo_ok X G (fc 6 rfl)
  have gl_is_name : mg "is_name" = some (.ref (He.ga K "is_name")) := He.glo_ok X G (fc 7 rfl)
  have gl_is_anchor : mg "is_anchor" = some (.ref (He.ga K "is_anchor")) := He.glo_ok X G (fc 8 rfl)
  have gl_rising : mg "rising" = some (.ref (He.ga K "rising")) := He.glo_ok X G (fc 9 rfl)
  have gl_way_up : mg "way_up" = some (.ref (He.ga K "way_up")) := He.glo_ok X G (fc 10 rfl)
  have gl_round_from : mg "round_from" = some (.ref (He.ga K "round_from")) := He.glo_ok X G (fc 11 rfl)
  have gl_check_rounds : mg "check_rounds" = some (.ref (He.ga K "check_rounds")) := He.glo_ok X G (fc 12 rfl)
  have gl__law_is_name : mg "_law_is_name" = some (.ref (He.ga K "_law_is_name")) := He.glo_ok X G (fc 13 rfl)
  have gl__law_rising : mg "_law_rising" = some (.ref (He.ga K "_law_rising")) := He.glo_ok X G (fc 14 rfl)
  have gl__law_due : mg "_law_due" = some (.ref (He.ga K "_law_due")) := He.glo_ok X G (fc 15 rfl)
  have gl__law_same : mg "_law_same" = some (.ref (He.ga K "_law_same")) := He.glo_ok X G (fc 16 rfl)
  have gl_is_list : mg "is_list" = some (.ref (He.ga K "is_list")) := He.glo_ok X G (fc 17 rfl)
  have gl_is_integer : mg "is_integer" = some (.ref (He.ga K "is_integer")) := He.glo_ok X G (fc 18 rfl)
  have gl_is_book_row : mg "is_book_row" = some (.ref (He.ga K "is_book_row")) := He.glo_ok X G (fc 19 rfl)
  have gl_law : mg "law" = some (.ref (He.ga K "law")) := He.glo_ok X G (fc 20 rfl)
  have gl_BadRow : mg "BadRow" = some (.ref (He.ga K "BadRow")) := He.glo_ok X G (fc 21 rfl)
  have gl_Round : mg "Round" = some (.ref (He.ga K "Round")) := He.glo_ok X G (fc 22 rfl)
  have f_abs : mg "abs" = none := He.free_ok X G (fc 23 rfl)
  have f_all : mg "all" = none := He.free_ok X G (fc 24 rfl)
  have f_bool : mg "bool" = none := He.free_ok X G (fc 25 rfl)
  have f_dict : mg "dict" = none := He.free_ok X G (fc 26 rfl)
  have f_enumerate : mg "enumerate" = none := He.free_ok X G (fc 27 rfl)
  have f_int : mg "int" = none := He.free_ok X G (fc 28 rfl)
  have f_isinstance : mg "isinstance" = none := He.free_ok X G (fc 29 rfl)
  have f_len : mg "len" = none := He.free_ok X G (fc 30 rfl)
  have f_list : mg "list" = none := He.free_ok X G (fc 31 rfl)
  have f_range : mg "range" = none := He.free_ok X G (fc 32 rfl)
  have f_str : mg "str" = none := He.free_ok X G (fc 33 rfl)
  have f_super : mg "super" = none := He.free_ok X G (fc 34 rfl)
  have f_tuple : mg "tuple" = none := He.free_ok X G (fc 35 rfl)
  have f_zip : mg "zip" = none := He.free_ok X G (fc 36 rfl)
  have c_CLOCK : ∃ t, mg "CLOCK" = some (.str "clock" t) := He.str_ok X G (fc 37 rfl)
  have c_LETTERS : ∃ t, mg "LETTERS" = some (.str "abcdefghijklmnopqrstuvwxyz" t) := He.str_ok X G (fc 38 rfl)
  have c_MOST_LETTERS : ∃ t, mg "MOST_LETTERS" = some (.int 8 t) := He.int_ok X G (fc 39 rfl)
  have gl_Book : mg "Book" = some (.ref (He.ga K "Book")) := He.glo_ok X G (fc 40 rfl)
  have cl_Book : Cls K (He.ga K "Book") := He.cls_ok (fc 41 rfl)
  have mk_Book : Mk K (He.ga K "Book") (He.ma K (He.ga K "Book") "__init__") := He.mkr_ok (fc 42 rfl)
  have gl_Hanging : mg "Hanging" = some (.ref (He.ga K "Hanging")) := He.glo_ok X G (fc 43 rfl)
  have cl_Hanging : Cls K (He.ga K "Hanging") := He.cls_ok (fc 44 rfl)
  have mk_Hanging : Mk K (He.ga K "Hanging") (He.ma K (He.ga K "Hanging") "__init__") := He.mkr_ok (fc 45 rfl)
  have na_Book_pairs : NoAttr K (He.ga K "Book") "pairs" := He.noat_ok (fc 46 rfl)
  have na_Hanging_anchors : NoAttr K (He.ga K "Hanging") "anchors" := He.noat_ok (fc 47 rfl)
  obtain ⟨fd__law_fresh, F__law_fresh⟩ := cd.def_ 0 rfl
  obtain ⟨fd__law_tried, F__law_tried⟩ := cd.def_ 1 rfl
  obtain ⟨fd__law_take, F__law_take⟩ := cd.def_ 2 rfl
  obtain ⟨fd__law_mix, F__law_mix⟩ := cd.def_ 3 rfl
  obtain ⟨fd__law_names, F__law_names⟩ := cd.def_ 4 rfl
  obtain ⟨fd__law_one, F__law_one⟩ := cd.def_ 5 rfl
  obtain ⟨fd__law_hungF, F__law_hungF⟩ := cd.def_ 6 rfl
  obtain ⟨fd_is_name, F_is_name⟩ := cd.def_ 7 rfl
  obtain ⟨fd_is_anchor, F_is_anchor⟩ := cd.def_ 8 rfl
  obtain ⟨fd_rising, F_rising⟩ := cd.def_ 9 rfl
  obtain ⟨fd_way_up, F_way_up⟩ := cd.def_ 10 rfl
  obtain ⟨fd_round_from, F_round_from⟩ := cd.def_ 11 rfl
  obtain ⟨fd_check_rounds, F_check_rounds⟩ := cd.def_ 12 rfl
  obtain ⟨fd_Hanging___init__, F_Hanging___init__⟩ := cd.def_ 13 rfl
  obtain ⟨fd__law_is_name, F__law_is_name⟩ := cd.def_ 14 rfl
  obtain ⟨fd__law_rising, F__law_rising⟩ := cd.def_ 15 rfl
  obtain ⟨fd__law_due, F__law_due⟩ := cd.def_ 16 rfl
  obtain ⟨fd__law_same, F__law_same⟩ := cd.def_ 17 rfl
  obtain ⟨fd_is_list, F_is_list⟩ := cd.def_ 18 rfl
  obtain ⟨fd_is_integer, F_is_integer⟩ := cd.def_ 19 rfl
  obtain ⟨fd_is_book_row, F_is_book_row⟩ := cd.def_ 20 rfl
  obtain ⟨fd_Book___init__, F_Book___init__⟩ := cd.def_ 21 rfl
  obtain ⟨fd_law, F_law⟩ := cd.def_ 22 rfl
  have el : f = He.ga K "law" := by have e := hfa.symm.trans gl_law; cases e; rfl
  subst el
  have bl := FunD.bindsA (ps := ["_law_script"]) F_law fun _ _ _ _ _ _ us hl => match us, hl with | [_], _ => rfl
  refine ⟨fd_law, fun s v => bl s [v] rfl, fun base _ _ hTB => ?_⟩
  have X_BadRow : GEx P w K mg base "BadRow" 1 ["name"] := gex1 (d := eD 4 0 "BadRow" "BadRow.__init__" ["name"]) (slf0 := "self") (y := "name") X G (c.toSaysE.err 0 rfl) ht f_super rfl rfl rfl rfl (by decide +kernel) rfl rfl rfl ⟨_, rfl, rfl⟩ (by decide) (by decide) (by decide) (by decide) (fun _ _ _ _ _ _ _ => rfl)
    (fun F f L h1 h2 => by obtain ⟨n, q, ps, b, sc, cl, c⟩ := F; cases h1; cases h2; exact ⟨_, rfl⟩) (fun F f L h1 => by obtain ⟨n, q, ps, b, sc, cl, c⟩ := F; cases h1; rfl) (fun F f L h1 => by obtain ⟨n, q, ps, b, sc, cl, c⟩ := F; cases h1; rfl)
  have X_Round : GEx P w K mg base "Round" 1 ["names"] := gex1 (d := eD 5 0 "Round" "Round.__init__" ["names"]) (slf0 := "self") (y := "names") X G (c.toSaysE.err 1 rfl) ht f_super rfl rfl rfl rfl (by decide +kernel) rfl rfl rfl ⟨_, rfl, rfl⟩ (by decide) (by decide) (by decide) (by decide) (fun _ _ _ _ _ _ _ => rfl)
    (fun F f L h1 h2 => by obtain ⟨n, q, ps, b, sc, cl, c⟩ := F; cases h1; cases h2; exact ⟨_, rfl⟩) (fun F f L h1 => by obtain ⟨n, q, ps, b, sc, cl, c⟩ := F; cases h1; rfl) (fun F f L h1 => by obtain ⟨n, q, ps, b, sc, cl, c⟩ := F; cases h1; rfl)
  have hmore := c.more
  unfold ex at hmore
  obtain ⟨hmore, ht_7⟩ := He.ba hmore
  obtain ⟨hmore, ht_6⟩ := He.ba hmore
  obtain ⟨hmore, ht_5⟩ := He.ba hmore
  obtain ⟨hmore, ht_4⟩ := He.ba hmore
  obtain ⟨hmore, ht_3⟩ := He.ba hmore
  obtain ⟨hmore, ht_2⟩ := He.ba hmore
  obtain ⟨hmore, ht_1⟩ := He.ba hmore
  have ht_0 := hmore
  have TB_law := hTB ("law", none) (by simp [tf])
  have hT_law : ((He.cT K ("law", none)).2, ((envOfC "law" (defScope (top 42)) 0 0 .none).qual ++ "<lambda>")) ∈ TabC.T := by show _ ∈ [((He.cT K ("law", none)).2, ((envOfC "law" (defScope (top 42)) 0 0 .none).qual ++ "<lambda>"))]; simp
  have hU_law : ∀ p ∈ TabC.T, p.1 = (He.cT K ("law", none)).2 → p.2 = ((envOfC "law" (defScope (top 42)) 0 0 .none).qual ++ "<lambda>") := by
    intro p hp e
    have hp : p ∈ [((He.cT K ("law", none)).2, ((envOfC "law" (defScope (top 42)) 0 0 .none).qual ++ "<lambda>"))] := hp
    simp only [List.mem_cons, List.not_mem_nil, or_false] at hp
    rcases hp with hp
    · rw [hp]
  have scu__law_tried : FnScope ["_law_ask", "_law_found", "e"] ["_law_ask"] (defScope (top 41)) := ⟨rfl, rfl, rfl, by decide +kernel, rfl, by decide +kernel, by decide +kernel⟩
  have U__law_tried : GTr P w K mg base "_law_tried" .drop [("BadRow", some 2, .fld "row" "name"), ("Round", some 2, .lst "round" "names")] := gtr_of F__law_tried gl__law_tried scu__law_tried (fun _ _ _ _ _ _ us hl => match us, hl with | [_], _ => rfl) rfl (by decide) (by first | exact .inl rfl | exact .inr (.inl rfl) | exact .inr (.inr rfl)) (fun e he e2 he2 => by
      simp only [List.mem_cons, List.not_mem_nil, or_false] at he he2
      rcases he with he | he <;> rcases he2 with he2 | he2 <;> subst he <;> subst he2 <;> first | exact of_decide_eq_true ht_2 | exact of_decide_eq_true ht_3 | exact of_decide_eq_true ht_6 | exact of_decide_eq_true ht_7) (fun cdv Y e1 e2 e3 e4 e5 q => TR.tried_givesD e3 scu__law_tried.nd rfl rfl (by decide) (by intro e he; simp only [hsA, List.map_cons, List.map_nil, List.mem_cons, List.not_mem_nil, or_false] at he; rcases he with he | he <;> subst he <;> first | trivial | exact ⟨by decide, by decide⟩) (fun s H => .cons ⟨rfl, rfl, .inl (by show Y.mg _ = _; rw [e4]; exact gl_BadRow)⟩ ⟨rfl, rfl⟩ (fun a oe cls d pn hz hf => TR.clause_fld (X := TR.ZX Y ["_law_ask", "_law_found", "e"] "_law_tried" (defScope (top 41)) (He.ga K "_law_tried") cdv s H) (i := 2) (j := 1) scu__law_tried.nd rfl rfl rfl rfl (by show XfC Y.K _; rw [e3]; exact xfB_ok ht_0) (by show PySem.W.findIn Y.K _ _ = _; rw [e3]; exact of_decide_eq_true ht_1) hz hf) (.cons ⟨rfl, rfl, .inl (by show Y.mg _ = _; rw [e4]; exact gl_Round)⟩ ⟨rfl, rfl⟩ (fun a oe cls d pn hz hf => TR.clause_lst (X := TR.ZX Y ["_law_ask", "_law_found", "e"] "_law_tried" (defScope (top 41)) (He.ga K "_law_tried") cdv s H) (i := 2) (j := 1) scu__law_tried.nd rfl rfl rfl rfl (by show XfC Y.K _; rw [e3]; exact xfB_ok ht_4) (by show PySem.W.findIn Y.K _ _ = _; rw [e3]; exact of_decide_eq_true ht_5) rfl (by show Y.mg _ = _; rw [e4]; exact f_list) hz hf) (.nil))))
  have G__law_take : GFn P w K mg base "_law_take" k__law_take ["_law_state", "_law_many"] (lift K 2 sp__law_take) := ok_take F__law_take gl__law_take f_len f_abs f_int
  have G__law_mix : GFn P w K mg base "_law_mix" k__law_mix ["_law_state", "_law_things"] (lift K 2 sp__law_mix) := gfn F__law_mix gl__law_mix sc__law_mix (fun _ _ _ _ _ _ us hl => match us, hl with | [_, _], _ => rfl) (d__law_mix (P := P) (w := w) (K := K) (mg := mg) (base := base) (G__law_take := G__law_take) (f_len := f_len) (f_list := f_list)) M__law_mix
  have G__law_names : GFn P w K mg base "_law_names" k__law_names ["_law_state", "_law_many"] (lift K 2 sp__law_names) := gfn F__law_names gl__law_names sc__law_names (fun _ _ _ _ _ _ us hl => match us, hl with | [_, _], _ => rfl) (d__law_names (P := P) (w := w) (K := K) (mg := mg) (base := base) (G__law_mix := G__law_mix)) M__law_names
  have G__law_one : GFn P w K mg base "_law_one" k__law_one ["_law_state", "_law_things"] (lift K 2 sp__law_one) := gfn F__law_one gl__law_one sc__law_one (fun _ _ _ _ _ _ us hl => match us, hl with | [_, _], _ => rfl) (d__law_one (P := P) (w := w) (K := K) (mg := mg) (base := base) (G__law_take := G__law_take) (f_len := f_len)) M__law_one
  have G__law_hungF : GFn P w K mg base "_law_hung" k__law_hungF ["_law_state", "_law_names_here"] (liftF K 2 sp__law_hungF) := gfnF F__law_hungF gl__law_hung sc__law_hungF (fun _ _ _ _ _ _ us hl => match us, hl with | [_, _], _ => rfl) (d__law_hungF (P := P) (w := w) (K := K) (mg := mg) (base := base) (G__law_mix := G__law_mix) (G__law_one := G__law_one) (f_enumerate := f_enumerate)) M__law_hungF
  have G_is_name : GFn P w K mg base "is_name" k_is_name ["thing"] (lift K 1 (FSp.of f_is_name)) := gfn F_is_name gl_is_name sc_is_name (fun _ _ _ _ _ _ us hl => match us, hl with | [_], _ => rfl) (d_is_name (P := P) (w := w) (K := K) (mg := mg) (base := base) (c_CLOCK := c_CLOCK) (c_LETTERS := c_LETTERS) (c_MOST_LETTERS := c_MOST_LETTERS) (f_all := f_all) (f_isinstance := f_isinstance) (f_len := f_len) (f_str := f_str)) meets
  have G_is_anchor : GFn P w K mg base "is_anchor" k_is_anchor ["thing", "names"] (lift K 2 (FSp.of f_is_anchor)) := gfn F_is_anchor gl_is_anchor sc_is_anchor (fun _ _ _ _ _ _ us hl => match us, hl with | [_, _], _ => rfl) (d_is_anchor (P := P) (w := w) (K := K) (mg := mg) (base := base) (c_CLOCK := c_CLOCK) (f_list := f_list) (hw := hw)) meets
  have G_rising : GFn P w K mg base "rising" k_rising ["things"] (lift K 1 (FSp.of f_rising)) := gfn F_rising gl_rising sc_rising (fun _ _ _ _ _ _ us hl => match us, hl with | [_], _ => rfl) (d_rising (P := P) (w := w) (K := K) (mg := mg) (base := base) (f_len := f_len)) meets
  have G_way_up : GFn P w K mg base "way_up" k_way_up ["anchors", "name"] (lift K 2 (FSp.of f_way_up)) := gfn F_way_up gl_way_up sc_way_up (fun _ _ _ _ _ _ us hl => match us, hl with | [_, _], _ => rfl) (d_way_up (P := P) (w := w) (K := K) (mg := mg) (base := base) (c_CLOCK := c_CLOCK) (hw := hw)) meets
  have G_round_from : GFn P w K mg base "round_from" k_round_from ["anchors", "name"] (lift K 2 (FSp.of f_round_from)) := gfn F_round_from gl_round_from sc_round_from (fun _ _ _ _ _ _ us hl => match us, hl with | [_, _], _ => rfl) (d_round_from (P := P) (w := w) (K := K) (mg := mg) (base := base) (hw := hw)) meets
  have G_check_rounds : GFn P w K mg base "check_rounds" k_check_rounds ["anchors"] (lift K 1 (FSp.of f_check_rounds)) := gfn F_check_rounds gl_check_rounds sc_check_rounds (fun _ _ _ _ _ _ us hl => match us, hl with | [_], _ => rfl) (d_check_rounds (P := P) (w := w) (K := K) (mg := mg) (base := base) (G_rising := G_rising) (G_round_from := G_round_from) (G_way_up := G_way_up) (X_Round := X_Round) (f_list := f_list) (hw := hw)) meets
  have I_Hanging : FnOk P w K mg base (CX P w) k_Hanging___init__ (He.ma K (He.ga K "Hanging") "__init__") fd_Hanging___init__ ["self", "rows"] (liftI K "Hanging" 2 (FSp.of f_Hanging___init__)) := dfnI F_Hanging___init__ sc_Hanging___init__ (O' := [0]) (by decide) (fun cdv A outer s H E hr => (d_Hanging___init__ (P := P) (w := w) (K := K) (mg := mg) (base := base) (G_check_rounds := G_check_rounds) (G_is_anchor := G_is_anchor) (G_is_name := G_is_name) (G_rising := G_rising) (X_BadRow := X_BadRow) (cl_Hanging := cl_Hanging) (f_list := f_list) (hw := hw) (na_Hanging_anchors := na_Hanging_anchors)) _ cdv A outer s H E hr) meetsI
  have K_Hanging_1 : GMk P w K mg base "Hanging" "Hanging" k_Hanging___init__ ["self", "rows"] [] (FSp.of f_Hanging___init__) := ⟨_, _, [], [], gl_Hanging, mk_Hanging, F_Hanging___init__.bindsN (fun _ _ _ _ _ _ us hl => match us, hl with | [_, _], _ => rfl), .nil, fun _ _ _ => RepL.nil, fun ds n Q xq h => runI_obj h, I_Hanging⟩
  have G__law_is_name : GFn P w K mg base "_law_is_name" k__law_is_name ["_law_thing"] (lift K 1 (FSp.of f__law_is_name)) := gfn F__law_is_name gl__law_is_name sc__law_is_name (fun _ _ _ _ _ _ us hl => match us, hl with | [_], _ => rfl) (d__law_is_name (P := P) (w := w) (K := K) (mg := mg) (base := base) (f_all := f_all) (f_isinstance := f_isinstance) (f_len := f_len) (f_str := f_str)) meets
  have G__law_rising : GFn P w K mg base "_law_rising" k__law_rising ["_law_things"] (lift K 1 (FSp.of f__law_rising)) := gfn F__law_rising gl__law_rising sc__law_rising (fun _ _ _ _ _ _ us hl => match us, hl with | [_], _ => rfl) (d__law_rising (P := P) (w := w) (K := K) (mg := mg) (base := base) (f_len := f_len) (hw := hw)) meets
  have G__law_due : GFn P w K mg base "_law_due" k__law_due ["_law_rows", "_law_bad"] (lift K 2 (FSp.of f__law_due)) := gfn F__law_due gl__law_due sc__law_due (fun _ _ _ _ _ _ us hl => match us, hl with | [_, _], _ => rfl) (d__law_due (P := P) (w := w) (K := K) (mg := mg) (base := base) (G__law_is_name := G__law_is_name) (G__law_rising := G__law_rising) (f_isinstance := f_isinstance) (f_len := f_len) (f_str := f_str) (hw := hw)) meets
  have Z__law_same : ∀ k, GFn P w K mg base "_law_same" (1 + k) ["_law_found", "_law_due_here"] (lift K 2 (FSp.of (r__law_same k))) := fun k => by
    induction k with
    | zero => exact gfn (m := sNever) (k := 0) (O' := []) F__law_same gl__law_same sc__law_same (fun _ _ _ _ _ _ us hl => match us, hl with | [_, _], _ => rfl) (fun f cdv A outer s H E hr => vss_never) (fun ds n Q xq hl h => by first | exact h.elim | (obtain ⟨_, _, _, z, _⟩ := h; cases z; done) | (obtain ⟨_, _, z, _⟩ := h; cases z; done))
    | succ k ih => exact gfn F__law_same gl__law_same sc__law_same (fun _ _ _ _ _ _ us hl => match us, hl with | [_, _], _ => rfl) (d__law_same (P := P) (w := w) (K := K) (mg := mg) (base := base) (kk := 1 + k) (sf := r__law_same k) (by omega) (G_self := ih) (f_all := f_all) (f_bool := f_bool) (f_int := f_int) (f_isinstance := f_isinstance) (f_len := f_len) (f_list := f_list) (f_tuple := f_tuple) (f_zip := f_zip)) meets
  have G__law_same : GFn P w K mg base "_law_same" k__law_same ["_law_found", "_law_due_here"] (lift K 2 (FSp.of f__law_same)) := Z__law_same 6
  have G_is_list : GFn P w K mg base "is_list" k_is_list ["thing"] (lift K 1 (FSp.of f_is_list)) := gfn F_is_list gl_is_list sc_is_list (fun _ _ _ _ _ _ us hl => match us, hl with | [_], _ => rfl) (d_is_list (P := P) (w := w) (K := K) (mg := mg) (base := base) (f_isinstance := f_isinstance) (f_list := f_list) (f_tuple := f_tuple)) meets
  have G_is_integer : GFn P w K mg base "is_integer" k_is_integer ["thing"] (lift K 1 (FSp.of f_is_integer)) := gfn F_is_integer gl_is_integer sc_is_integer (fun _ _ _ _ _ _ us hl => match us, hl with | [_], _ => rfl) (d_is_integer (P := P) (w := w) (K := K) (mg := mg) (base := base) (f_bool := f_bool) (f_int := f_int) (f_isinstance := f_isinstance)) meets
  have G_is_book_row : GFn P w K mg base "is_book_row" k_is_book_row ["thing", "names"] (lift K 2 (FSp.of f_is_book_row)) := gfn F_is_book_row gl_is_book_row sc_is_book_row (fun _ _ _ _ _ _ us hl => match us, hl with | [_, _], _ => rfl) (d_is_book_row (P := P) (w := w) (K := K) (mg := mg) (base := base) (G_is_anchor := G_is_anchor) (G_is_integer := G_is_integer) (G_is_list := G_is_list) (f_len := f_len)) meets
  have I_Book : FnOk P w K mg base (CX P w) k_Book___init__ (He.ma K (He.ga K "Book") "__init__") fd_Book___init__ ["self", "rows"] (liftI K "Book" 2 (FSp.of f_Book___init__)) := dfnI F_Book___init__ sc_Book___init__ (O' := [0]) (by decide) (fun cdv A outer s H E hr => (d_Book___init__ (P := P) (w := w) (K := K) (mg := mg) (base := base) (G_check_rounds := G_check_rounds) (G_is_book_row := G_is_book_row) (G_is_name := G_is_name) (G_rising := G_rising) (X_BadRow := X_BadRow) (cl_Book := cl_Book) (f_list := f_list) (f_tuple := f_tuple) (hw := hw) (na_Book_pairs := na_Book_pairs)) _ cdv A outer s H E hr) meetsI
  have K_Book_1 : GMk P w K mg base "Book" "Book" k_Book___init__ ["self", "rows"] [] (FSp.of f_Book___init__) := ⟨_, _, [], [], gl_Book, mk_Book, F_Book___init__.bindsN (fun _ _ _ _ _ _ us hl => match us, hl with | [_, _], _ => rfl), .nil, fun _ _ _ => RepL.nil, fun ds n Q xq h => runI_obj h, I_Book⟩
  obtain ⟨ff, fdf, g1, g2, g3, g4⟩ := ok_fresh (P := P) (w := w) (base := base) F__law_fresh gl__law_fresh f_list
  exact law_topL (p0 := ("law", none)) F_law rfl sc_law (by decide) (fun cdv A outer s H E hr => ps_set (i := 1) sc_law.nd rfl (by first | exact .inl rfl | exact .inr rfl) (pe_call g4 (DL.Room.le hr (by decide)) rfl g1 g2 g3 .nil passT (pa_cons (pv 0) pa_nil))) (d_law (P := P) (w := w) (K := K) (mg := mg) (base := base) TB_law hT_law hU_law (G__law_due := G__law_due) (G__law_hungF := G__law_hungF) (G__law_names := G__law_names) (G__law_one := G__law_one) (G__law_same := G__law_same) (G__law_take := G__law_take) (K_Book_1 := K_Book_1) (K_Hanging_1 := K_Hanging_1) (U__law_tried := U__law_tried) (f_dict := f_dict) (f_isinstance := f_isinstance) (f_list := f_list) (f_range := f_range) (f_str := f_str) (hw := hw)) M_law
end DL.K07
open PySem PySem.W PySem.Calls PyProof.Rows
theorem PySem.Challenge.cw_cookcalls_k07_hangings_refused_holds : PySem.Challenge.rw_cookcalls_k07_hangings_refused.Holds := by
  w_on; o_law
  refine HandSHeadRun.head_any (r := OpenLaw.row PySem.Challenge.rw_cookcalls_k07_hangings_refused) (q := view (OpenLaw.row PySem.Challenge.rw_cookcalls_k07_hangings_refused).prog [42]) (H := DL.K07.hk) (ob := DL.K07.ob) (M := 20000) (loose := DL.K07.loose) (d := HandSHeadRun.topDef (OpenLaw.row PySem.Challenge.rw_cookcalls_k07_hangings_refused).prog 42) (kwd := []) DL.K07.ob_eq
    (by kernel_rfl) (fun s => by kernel_rfl) DL.K07.run (by kernel_rfl) (by kernel_rfl) (by kernel_rfl) (by rfl) (by first | assumption | decide +kernel) (by decide +kernel) ⟨rfl, rfl, rfl, rfl, rfl, by decide +kernel⟩ ?hw ?hc
  case hw => w_witness2
  case hc =>
    refine LamX.walk_ofTsE (l := PySem.Challenge.rw_cookcalls_k07_hangings_refused) (n := 63) (k := DL.K07.k_law) (x := "_law_script") (CX := fun w => L2.CX (PySem.Challenge.rw_cookcalls_k07_hangings_refused).prog w) rfl (by decide) (by kernel_rfl) ⟨rfl, by decide, by decide⟩ ?F (fun w H s e s' h => DL.cx_end H s e s' ⟨_, _, h⟩)
    intro w mg fa h Y G hmg0
    obtain ⟨K, KX, c⟩ := Y
    have hmg : mg ("law" : PySem.Str) = some (.ref fa) := by
      have e : (HandSHeadRun.topDef (OpenLaw.row PySem.Challenge.rw_cookcalls_k07_hangings_refused).prog 42).name = ("law" : PySem.Str) := by kernel_rfl
      rw [← e]
      exact hmg0
    obtain ⟨fd, hb, hF⟩ := DL.K07.facts (P := (PySem.Challenge.rw_cookcalls_k07_hangings_refused).prog) (w := w) KX G hmg c (by kernel_rfl)
    refine ⟨K, KX, fd, DL.K07.tf.map (He.cT K), DL.K07.spL K w, ?_, ?_, ?_, hb, ?_, fun base h1 h2 h3 => hF base h1 h2 fun p hp => h3 _ (List.mem_map.mpr ⟨p, hp, rfl⟩)⟩
    · intro p hp
      obtain ⟨d, hd, rfl⟩ := List.mem_map.mp hp
      exact c.empty d hd
    · intro p hp
      obtain ⟨d, hd, rfl⟩ := List.mem_map.mp hp
      exact c.out d hd
    · intro p hp
      obtain ⟨d, hd, rfl⟩ := List.mem_map.mp hp
      exact PySem.W.codeHd_of_K KX (c.hd d hd)
    · intro H a ns hl hbits hT hS
      refine ⟨a, ns, rfl, hS, ⟨@DL.tabs_new (DL.K07.tabK K w) _ _ fun p hp => ?_, fun _ _ _ => trivial⟩, fun _ => rfl⟩
      obtain ⟨d, hd, e⟩ := DL.K07.tab_in hp
      rw [e]
      exact hT _ (List.mem_map.mpr ⟨d, hd, rfl⟩)
