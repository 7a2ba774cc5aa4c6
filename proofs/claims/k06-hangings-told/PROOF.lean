import PyProof.Rows.All
import HandS.HeadHook4
import HandS.ForMost
import HandS.ForExc
import HandS.Conv
import HandS.HeadHook1
import HandS.Lambda
import KE.KeyNested
import PyProof.DictKind
import PyProof.DictRoadsH
import HandS.Dict
import HandS.List
import HandS.Walk
import HandS.IsInst
import HandS.Flow
import HandS.Wide
import HandS.TupAny
import HandS.Deep
import HandS.Strs
import KE.DataCmp
import KE.GoesEnum
import HandS.Zip
import HandS.Exc
import HandS.Iter
import HandS.Defaults
import HandS.DictComp
import HandS.Words
import HandS.ExcInit
import HandS.Nested
import KE.KExcSuper
import HandS.TryMany
import HandS.ExcField
import PyProof.Rows.SetFrom
import HandS.Small
import HandS.Style
import HandS.DeepEq
import KE.KOpsOwn
import PyProof.InstNe
import HandS.ListEq
import HandS.SortInts
import HandS.OwnEq
import KE.KOwnIter
import HandS.IterVal
import HandS.HeadNt
import HandS.HeadWalk
import HandS.Codes
import KE.KDictWalk
import PyProof.EqKinds
import PyProof.Raises
import HandS.GenOver
import HandS.GenList
import HandS.ListItems
import HandS.TupLen
import PyProof.Rows.TupDisplay
import HandS.RaiseMore
import PyProof.EqAt
import PyProof.NeKinds
import KE.KDictList
import HandS.Ends
import Wide.All
import OpenK.AllK
import Wide.FinOn
import KE.KStateDown
import HandS.WordsExc
import HandS.More
import HandS.Head0
import HandS.Head1
import HandS.Head2
import HandS.HeadEnd
import PySem.Challenge.RW_cookcalls_k06_hangings_told
set_option Elab.async false
set_option linter.all false
set_option maxRecDepth 100000
set_option maxHeartbeats 0
namespace HX
open PySem L2
/-- the statements of a class -/
def inCls (st : Stmt) : List Stmt := match st with
  | .ClassDef _ _ _ b _ _ _ _ _ _ _ => b
  | _ => []
end HX
namespace ES
open PySem PySem.Spec PyProof.Rows L2
abbrev VI := "ValueError.__init__"
end ES
namespace HX
open PySem L2 He
def oexK (K : PySem.W.Frag) (C : Addr) : Bool := match K.lookup C with
  | some ⟨.type "type", _, .cls cd, sl⟩ => (match cd.mro, sl.toList with
    | .ref C' :: bm, [_, _, _, _, some (.builtin n), _] => (decide (C' = C) && decide (n = "ValueError.__new__")) && ((!cd.hasDel && cd.hasDict) && PySem.HandSPX.refsVE bm)
    | _, _ => false)
  | _ => false
def oexB (K : PySem.W.Frag) (C : Addr) : Bool := oexK K C && (decide (PySem.W.findIn K (.ref C) "__setattr__" = some (some (.builtin "object.__setattr__"))) && (decide (PySem.W.subIn K (.ref C) (.type "BaseException") = some true) && (decide (PySem.W.typeIn K (.ref C) = some (.type "type")) && PySem.W.keepIn K (.ref C))))
abbrev FnE : Type := Option (Str × Str × Arguments × FuncBody × Scope × Addr × List Str × Addr × Bool)
def plainD (fd : FuncData) : Bool := decide (fd.defaults = .none) && (decide (fd.kwdefaults = .none) && fd.annotations.isNone)
def fnE (K : PySem.W.Frag) (f : Addr) : FnE := match K.lookup f with
  | some ⟨_, _, .func fd, _⟩ => some (fd.name, fd.qualname, fd.params, fd.body, fd.scope, fd.globals, fd.closure.map (·.1), fd.builtins, plainD fd)
  | _ => none
/-- its code object, the cell of its class -/
def codB (P : Program) (K : PySem.W.Frag) (C f : Addr) (q : Str) : Bool := match K.lookup f with
  | some ⟨_, _, .func fd, _⟩ => (match fd.code with
    | .ref c => PySem.W.codeIn K (.ref c) q && (match K.lookup c with
      | some ⟨_, _, .fields vs, _⟩ => (match (vs[2]? : Option Value) with
        | some (.str fl _) => (P.main.file : Str) == fl
        | _ => false)
      | _ => false)
    | _ => false) && (match fd.closure with
    | [(_, cc)] => (match K.lookup cc with
      | some ⟨_, _, .cell (some (.ref C')), _⟩ => decide (C' = C)
      | _ => false)
    | _ => false)
  | _ => false
structure ErrD where
  x : Str
  qual : Str
  params : Arguments
  body : List Stmt
  scope : Scope
  fl : List Str
def ErrD.f (K : PySem.W.Frag) (d : ErrD) : Addr := ma K (ga K d.x) "__init__"
def ErrD.val (d : ErrD) : FnE := some ("__init__", d.qual, d.params, .stmts d.body, d.scope, mainGlobals, ["__class__"], builtinsNs, true)
def ErrD.ok (P : Program) (K : PySem.W.Frag) (d : ErrD) : Bool := (eqO (PySem.W.nsIn K mainGlobals d.x) (some (some (.ref (ga K d.x)))) && oexB K (ga K d.x)) && ((eqO (PySem.W.findIn K (.ref (ga K d.x)) "__init__") (some (some (.ref (d.f K)))) && decide (PySem.W.typeIn K (.ref (d.f K)) = some (.type "function"))) &&
  ((codB P K (ga K d.x) (d.f K) d.qual && decide (PySem.W.mroIn K (ga K d.x) (.ref (ga K d.x)) = some true)) && ((decide (PySem.W.ks_superIn K (ga K d.x) (ga K d.x) "__init__" = some (some (.builtin ES.VI))) && decide (PySem.W.subIn K (.ref (ga K d.x)) (.type "ValueError") = some true)) &&
  (eqO (PySem.W.nsIn K cStatics "thirdparty.any") (some none) && d.fl.all fun g => eqO (PySem.W.findIn K (.ref (ga K d.x)) g) (some none)))))
/-- the addresses looked at -/
def addN1 (p : List Addr × List Addr) (a : Addr) : List Addr × List Addr := match p.1.any (Nat.beq a) with
  | true => p
  | false => (a :: p.1, a :: p.2)
def leafE (o : Obj) : List Addr := match o.data with
  | .func fd => refV fd.code
  | _ => []
def kidsE (o : Obj) : List Addr := match o.data with
  | .func fd => refV fd.defaults ++ refV fd.kwdefaults ++ fd.closure.map (·.2)
  | _ => refsD o
def addL1 (p : List Addr × List Addr) (a : Addr) : List Addr × List Addr := (a :: p.1, p.2)
def bfsD (g : Addr → Option Obj) : Nat → List Addr → List Addr → List Addr
  | 0, _, seen => seen
  | n + 1, fr, seen => match fr.foldl (fun p a => match g a with
      | some o => (leafE o).foldl addL1 ((kidsE o).foldl addN1 p)
      | none => p) (seen, []) with
    | (seen', new) => bfsD g n new seen'
def asE (g : Addr → Option Obj) (n : Nat) : List Addr := bfsD g n [mainGlobals, cStatics] [mainGlobals, cStatics, sysModules]
abbrev AlE : Type := AlD × Bool × List FnE
def obsE (P : Program) (n : Nat) (fa : List Fa) (fn : List DefD) (er : List ErrD) (tf : List Defn) (ex : PySem.W.Frag → Bool) (g : Addr → Option Obj) : AlE :=
  (obsD fa fn (frT g (asE g n)), (ex (frT g (asE g n)) && er.all fun e => e.ok P (frT g (asE g n))) && tabsB g tf (frT g (asE g n)), er.map fun e => fnE (frT g (asE g n)) (e.f (frT g (asE g n))))
def valE (fn : List DefD) (er : List ErrD) : AlE := (valD fn, true, er.map ErrD.val)
def fnS (K : PySem.W.Frag) (d : He5.DefA) : He.FnW := He5.fnA K (d.at_ K)
abbrev AlS : Type := AlE × Bool × List He.FnW
def obsS (P : Program) (n : Nat) (fa : List Fa) (fn : List DefD) (er : List ErrD) (tf : List Defn) (ex : PySem.W.Frag → Bool) (sf : List He5.DefA) (g : Addr → Option Obj) : AlS :=
  (obsE P n fa fn er tf ex g, sf.all fun d => d.ok (frT g (asE g n)), sf.map (fnS (frT g (asE g n))))
def valS (fn : List DefD) (er : List ErrD) (sf : List He5.DefA) : AlS := (valE fn er, true, sf.map He5.DefA.val)
end HX
namespace DL
open PySem PySem.Spec PyProof.Rows L2
def insB (K : PySem.W.Frag) (C : Addr) : Bool := decide (PySem.W.findIn K (.ref C) "__class__" = some (some (.builtin "object.__class__"))) && (decide (PySem.W.specialIn K (.builtin "object.__class__") "__get__" = some (some (.builtin "getset_descriptor.__get__"))) && (decide (PySem.W.takesIn K (.builtin "object.__class__") = some true) && (decide (PySem.W.mroIn K C (.type "object") = some true) && decide (PySem.W.kitOne K (.ref C) (.ref C) = some true))))
def isUB (K : PySem.W.Frag) (C : Addr) : Bool := insB K C && (decide (PySem.W.kitOne K (.type "NoneType") (.ref C) = some false) && decide (PySem.W.kitOne K (.type "dict") (.ref C) = some false))
def eqUB (K : PySem.W.Frag) (C : Addr) : Bool := PySem.W.notFirst K C (.type "NoneType") && (PySem.W.notFirst K C (.type "dict") && (decide (PySem.W.mroIn K C (.type "NoneType") = some false) && decide (PySem.W.mroIn K C (.type "dict") = some false)))
end DL
namespace DL.K06
open PySem PySem.Spec PyProof.Rows L2 HX
def top (i : Nat) : Stmt := PySem.Challenge.pw_cookcalls_k06_hangings_told.main.body.getD i (.Pass ⟨0, 0, 0, 0⟩)
def mth (i j : Nat) : Stmt := (inCls (top i)).getD j (.Pass ⟨0, 0, 0, 0⟩)
def dF (i : Nat) (x : Str) (dfl : List He.Dv) : He.DefD := ⟨(x, none), x, x, defArgs (top i), defBody (top i), defScope (top i), dfl, []⟩
def dM (i j : Nat) (c m q : Str) (dfl : List He.Dv) : He.DefD := ⟨(c, some m), m, q, defArgs (mth i j), defBody (mth i j), defScope (mth i j), dfl, []⟩
def sf : List He5.DefA := []
def eD (i j : Nat) (x q : Str) (fl : List Str) : ErrD := ⟨x, q, defArgs (mth i j), defBody (mth i j), defScope (mth i j), fl⟩
def fn : List He.DefD := [dF 21 "_law_fresh" [], dF 32 "_law_tried" [], dF 22 "_law_take" [], dF 24 "_law_mix" [], dF 27 "_law_names" [], dF 23 "_law_one" [], dF 29 "_law_hung" [], dF 9 "is_name" [], dF 15 "is_anchor" [], dF 11 "rising" [], dF 16 "way_up" [], dF 17 "round_from" [], dF 18 "check_rounds" [], dM 19 0 "Hanging" "__init__" "Hanging.__init__" [], dF 28 "_law_rising" [], dM 19 1 "Hanging" "rows" "Hanging.rows" [], dF 25 "_law_same" [], dF 26 "_law_same_dict" [], dM 19 2 "Hanging" "dishes" "Hanging.dishes" [], dM 19 4 "Hanging" "looks" "Hanging.looks" [], dM 19 5 "Hanging" "__iter__" "Hanging.__iter__" [], dF 10 "is_among" [], dF 13 "check_dish" [], dM 19 3 "Hanging" "way" "Hanging.way" [], dF 31 "_law_way" [], dF 30 "_law_with" [], dM 19 6 "Hanging" "__eq__" "Hanging.__eq__" [], dF 33 "law" []]
def fa : List He.Fa := [.glo "_law_fresh", .glo "_law_tried", .glo "_law_take", .glo "_law_mix", .glo "_law_names", .glo "_law_one", .glo "_law_hung", .glo "is_name", .glo "is_anchor", .glo "rising", .glo "way_up", .glo "round_from", .glo "check_rounds", .glo "_law_rising", .glo "_law_same", .glo "_law_same_dict", .glo "is_among", .glo "check_dish", .glo "_law_way", .glo "_law_with", .glo "law", .glo "NoDish", .free "abs", .free "all", .free "bool", .free "dict", .free "enumerate", .free "int", .free "isinstance", .free "iter", .free "len", .free "list", .free "range", .free "str", .free "super", .free "tuple", .free "zip", .str "CLOCK" "clock", .str "LETTERS" "abcdefghijklmnopqrstuvwxyz", .int "MOST_LETTERS" 8, .glo "Hanging", .cls "Hanging", .mkr "Hanging", .meth "Hanging" "rows", .meth "Hanging" "dishes", .meth "Hanging" "looks", .meth "Hanging" "__iter__", .meth "Hanging" "way", .meth "Hanging" "__eq__", .noat "Hanging" "anchors"]
def er : List ErrD := [eD 3 0 "BadRow" "BadRow.__init__" ["name"], eD 2 0 "NoDish" "NoDish.__init__" ["name"], eD 4 0 "Round" "Round.__init__" ["names"]]
def tf : List He.Defn := [("law", none)]
def ex (K : PySem.W.Frag) : Bool := xfB K (He.ga K "NoDish") && decide (PySem.W.findIn K (.ref (He.ga K "NoDish")) "name" = some none) && decide (PySem.W.exmOne K (.ref (He.ga K "NoDish")) (.ref (He.ga K "NoDish")) = some (decide (("NoDish" : Str) = "NoDish"))) && isUB K (He.ga K "Hanging") && eqUB K (He.ga K "Hanging") && decide (PySem.W.findIn K (.ref (He.ga K "Hanging")) "__len__" = some none) && decide (PySem.W.findIn K (.ref (He.ga K "Hanging")) "__length_hint__" = some none) && PySem.W.selfFirst K (He.ga K "Hanging") && decide (PySem.W.findIn K (.ref (He.ga K "Hanging")) "__ne__" = some (some (.builtin "object.__ne__"))) && decide (PySem.W.mroIn K (He.ga K "Hanging") (.type "object") = some true)
def loose : List Str := [("KitchenError" : Str), ("NoDish" : Str), ("BadRow" : Str), ("Round" : Str), ("LETTERS" : Str), ("MOST_LETTERS" : Str), ("CLOCK" : Str), ("is_name" : Str), ("is_among" : Str), ("rising" : Str), ("check_dish" : Str), ("is_anchor" : Str)] ++ [("way_up" : Str), ("round_from" : Str), ("check_rounds" : Str), ("Hanging" : Str), ("_law_fresh" : Str), ("_law_take" : Str), ("_law_one" : Str), ("_law_mix" : Str), ("_law_same" : Str), ("_law_same_dict" : Str), ("_law_names" : Str), ("_law_rising" : Str)] ++ [("_law_hung" : Str), ("_law_with" : Str), ("_law_way" : Str), ("_law_tried" : Str)]
abbrev R : PySem.W.OpenRow := PySem.W.OpenLaw.row PySem.Challenge.rw_cookcalls_k06_hangings_told
def ob (s : PySem.W.SharedT) : AlS := obsS R.prog 6 fa fn er tf ex sf (HandSHeadRun.getT s)
abbrev vw : Program := PySem.W.view R.prog [33]
noncomputable abbrev endS (w : World) (os : OsState) : Option PySem.W.SharedT := HandSHeadRun.endF (HandSHeadRun.stepQ (HandSHeadRun.denQ HandSHeadRun.tabQ) R.prog w) 20000 R.prog w os
open HandSHeadRun PySem.W in
theorem run_a (w : World) (os : OsState) : (endS w os).map (fun s => looksF R.prog (boot_heap w.params) s.abs) = some true := by
  kernel_rfl
open HandSHeadRun PySem.W in
theorem run_b (w : World) (os : OsState) : (endS w os).map (fun s => seenQ vw loose (importedModules R.prog.main.body) (fun s => xlAt vw [] s && recOk R.toRowW.records s) s.abs) = some (openGood vw loose) := by
  kernel_rfl
theorem run_c1 (w : World) (os : OsState) : (endS w os).map (fun s => (ob s).1.1.2) = some (valS fn er sf).1.1.2 := by
  kernel_rfl
theorem run_c2 (w : World) (os : OsState) : (endS w os).map (fun s => ((ob s).1.1.1, (ob s).1.2, (ob s).2)) = some ((valS fn er sf).1.1.1, (valS fn er sf).1.2, (valS fn er sf).2) := by
  kernel_rfl
end DL.K06
namespace HX
open PySem L2
end HX
namespace MD
open PySem SeqAt
/-! dicts whose keys are texts, numbers and tuples of such, side by side -/
abbrev NK := NestedKey
/-- the entries es have the keys ks, in this order -/
structure Keyed (w : World) (h : Heap) (es : Array DictEntry) (ks : List NK) : Prop where
  len : es.size = ks.length
  at_ : ∀ (i : Nat) (e : DictEntry) (k : NK), es[i]? = some e → ks[i]? = some k → e.hash = k.hash w ∧ NestedIs h k e.key
  dep : ∀ k ∈ ks, k.depth ≤ 8
  nd : ks.Nodup
section
variable {P : Program} {w : World} {A : Around} {E : Value → Shared → Prop} {s : Shared} {es : Array DictEntry} {ks : List NK} {k : NK} {key : Value} {d : Addr} {o : Obj} {ep : Nat}
/-- two keys are asked whether they are equal -/
theorem ask_eq {x y : NK} {u v : Value} {Q : Bool → Shared → Prop} (hu : A.units + 8 < cLine) (hx : NestedIs s.heap x u) (hy : NestedIs s.heap y v) (dx : x.depth ≤ 8) (h : Q (decide (x = y)) s) : wpAny (model P w) A (eqBool u v) Q E s :=
  eqAt_key x y A s u v hx hy (by omega) _ _ _ _ (by rw [← NestedKey.decide_eq]; exact h)
theorem Keyed.get (X : Keyed w s.heap es ks) {i : Nat} (hi : i < ks.length) : ∃ e k, es[i]? = some e ∧ ks[i]? = some k ∧ e.hash = k.hash w ∧ NestedIs s.heap k e.key ∧ k.depth ≤ 8 := by
  have hi' : i < es.size := by rw [X.len]; exact hi
  refine ⟨es[i], ks[i], Array.getElem?_eq_getElem hi', List.getElem?_eq_getElem hi, ?_⟩
  obtain ⟨h1, h2⟩ := X.at_ i _ _ (Array.getElem?_eq_getElem hi') (List.getElem?_eq_getElem hi)
  exact ⟨h1, h2, X.dep _ (List.getElem_mem hi)⟩
theorem one_place (hn : ks.Nodup) {i j : Nat} (hi : ks[i]? = some k) (hj : ks[j]? = some k) : i = j :=
  (List.getElem?_inj (List.getElem?_eq_some_iff.mp hi).1 hn).mp (hi.trans hj.symm)
/-- the places that are looked at -/
def plc (w : World) (es : Array DictEntry) (k : NK) : List Nat := placesWithHash es.size (fun i => es[i]?.map (·.hash)) (k.hash w)
theorem plc_iff (X : Keyed w s.heap es ks) (i : Nat) : i ∈ plc w es k ↔ ∃ x, ks[i]? = some x ∧ x.hash w = k.hash w := by
  unfold plc placesWithHash
  rw [List.mem_filter, List.mem_range]
  constructor
  · rintro ⟨h1, h2⟩
    obtain ⟨e, x, e1, e2, e3, _⟩ := X.get (i := i) (by rw [← X.len]; exact h1)
    dsimp only at h2
    rw [e1] at h2
    refine ⟨x, e2, ?_⟩
    have h3 : e.hash = k.hash w := by simpa using h2
    rw [← e3]
    exact h3
  · rintro ⟨x, h1, h2⟩
    have hl : i < ks.length := (List.getElem?_eq_some_iff.mp h1).1
    refine ⟨by rw [X.len]; exact hl, ?_⟩
    obtain ⟨e, y, e1, e2, e3, _⟩ := X.get hl
    rw [h1] at e2
    cases e2
    dsimp only
    rw [e1]
    simp [e3, h2]
theorem plc_lt (X : Keyed w s.heap es ks) {i : Nat} (h : i ∈ plc w es k) : i < ks.length := by
  obtain ⟨x, e, _⟩ := (plc_iff X i).mp h
  exact (List.getElem?_eq_some_iff.mp e).1
/-- what is told -/
def Tells (ks : List NK) (k : NK) (Q : Option Nat → Shared → Prop) (s : Shared) : Prop := ((∀ i : Nat, ks[i]? ≠ some k) → Q none s) ∧ ∀ i : Nat, ks[i]? = some k → Q (some i) s
/-- texts among texts -/
theorem by_value {x : Str} {t : Tok} {Q : Option Nat → Shared → Prop} (hu : A.units + 8 < cLine) (X : Keyed w s.heap es ks) (ho : s.heap.get? d = some o) (hd : o.data = .dict es ep) (ht : Tells ks (.text x) Q s) : wpAny (model P w) A (foundByValue d (.str x t) es x) Q E s := by
  unfold foundByValue
  cases hf : es.findIdx? (·.key.isStr x) with
  | none =>
    refine wpAny_pure (ht.1 fun i hi => ?_)
    have hl := (List.getElem?_eq_some_iff.mp hi).1
    obtain ⟨e, y, e1, e2, e3, e4, _⟩ := X.get hl
    rw [hi] at e2
    cases e2
    rw [Array.findIdx?_eq_none_iff] at hf
    have z := hf e (Array.mem_of_getElem? e1)
    generalize hk : e.key = kv at z e4
    cases e4
    simp [Value.isStr] at z
  | some i =>
    obtain ⟨hi, h1, _⟩ := Array.findIdx?_eq_some_iff_getElem.mp hf
    have hl : i < ks.length := by rw [← X.len]; exact hi
    obtain ⟨e, y, e1, e2, e3, e4, e5⟩ := X.get hl
    have ee : es[i] = e := by
      have z := Array.getElem?_eq_getElem hi
      rw [e1] at z
      exact (Option.some.inj z).symm
    have hy : y = .text x := by
      rw [ee] at h1
      generalize hk : e.key = kv at h1 e4
      cases e4 <;> simp [Value.isStr] at h1
      rw [h1]
    subst hy
    dsimp only
    rw [e1]
    dsimp only
    refine wpAny_bind (wpAny_dictEpoch ho hd (wpAny_bind (ask_eq hu e4 (.text x t) e5 (wpAny_bind (wpAny_dictEpoch ho hd ?_)))))
    rw [if_neg (by simp), decide_eq_true rfl]
    exact wpAny_bind (wpAny_rule (wpAny_pure (ht.2 i e2)))
/-- the walk where no key is an object -/
theorem by_plain {Q : Option Nat → Shared → Prop} (hu : A.units + 8 < cLine) (X : Keyed w s.heap es ks) (ho : s.heap.get? d = some o) (hd : o.data = .dict es ep) (hk : NestedIs s.heap k key) (ht : Tells ks k Q s) : wpAny (model P w) A (dictWalkPlain d key (k.hash w) es (plc w es k)) Q E s := by
  unfold dictWalkPlain
  refine wpAny_bind (wpAny_forIn_list _ (fun rest b s' => s' = s ∧ b = (none, ()) ∧ (∀ i ∈ rest, i ∈ plc w es k) ∧ ∀ i : Nat, ks[i]? = some k → i ∈ rest) _ ?_ ?_ _ _ ⟨rfl, rfl, fun _ h => h, fun i hi => (plc_iff X i).mpr ⟨k, hi, rfl⟩⟩)
  · rintro i rest b s' ⟨rfl, rfl, h1, h2⟩
    obtain ⟨e, y, e1, e2, e3, e4, e5⟩ := X.get (plc_lt X (h1 i List.mem_cons_self))
    have eh : e.hash = k.hash w := by
      obtain ⟨z, z1, z2⟩ := (plc_iff X i).mp (h1 i List.mem_cons_self)
      rw [e2] at z1
      cases z1
      rw [e3, z2]
    rw [e1]
    dsimp only
    rw [if_pos (by simp [eh])]
    refine wpAny_bind (wpAny_dictEpoch ho hd (wpAny_bind (ask_eq hu e4 hk e5 (wpAny_bind (wpAny_dictEpoch ho hd ?_)))))
    rw [if_neg (by simp)]
    by_cases hyk : y = k
    · subst hyk
      rw [decide_eq_true rfl]
      exact wpAny_bind (wpAny_rule (wpAny_pure (wpAny_pure (ht.2 i e2))))
    · rw [decide_eq_false hyk]
      refine wpAny_bind (wpAny_rule (wpAny_pure ⟨rfl, rfl, fun j hj => h1 j (List.mem_cons_of_mem _ hj), fun j hj => ?_⟩))
      rcases List.mem_cons.mp (h2 j hj) with z | z
      · subst z
        rw [e2] at hj
        exact (hyk (Option.some.inj hj)).elim
      · exact z
  · rintro b s' ⟨rfl, rfl, _, h2⟩
    exact wpAny_pure (ht.1 fun i hi => nomatch h2 i hi)
theorem quiet_list {Q : Bool → Shared → Prop} {st : List Value} (hk : NestedIs s.heap k key) (dk : k.depth ≤ 8) (hs : ∀ v ∈ st, ∃ x : NK, NestedIs s.heap x v ∧ x.depth ≤ 8) (h : Q false s) : wpAny (model P w) A (tableMayTell key st) Q E s := by
  unfold tableMayTell
  cases hst : st.isEmpty with
  | true => exact wpAny_pure h
  | false =>
    rw [if_neg (by decide)]
    refine wpAny_bind (quiet_key k key 8 s hk dk A E _ ?_)
    rw [if_neg (by decide)]
    refine wpAny_bind (wpAny_forIn_list _ (fun rest b s' => s' = s ∧ b = (none, ()) ∧ ∀ v ∈ rest, v ∈ st) _ ?_ ?_ _ _ ⟨rfl, rfl, fun _ z => z⟩)
    · rintro v rest b s' ⟨rfl, rfl, hr⟩
      obtain ⟨x, hx, dx⟩ := hs v (hr v List.mem_cons_self)
      refine wpAny_bind (quiet_key x v 8 _ hx dx A E _ ?_)
      rw [if_neg (by decide)]
      exact wpAny_pure ⟨rfl, rfl, fun u hu => hr u (List.mem_cons_of_mem _ hu)⟩
    · rintro b s' ⟨rfl, rfl, _⟩
      exact wpAny_pure h
theorem stored_keys (X : Keyed w s.heap es ks) : ∀ v ∈ (plc w es k).filterMap (fun i => es[i]?.map (·.key)), ∃ x : NK, NestedIs s.heap x v ∧ x.depth ≤ 8 := fun v hv => by
  obtain ⟨i, h1, h2⟩ := List.mem_filterMap.mp hv
  obtain ⟨e, y, e1, e2, e3, e4, e5⟩ := X.get (plc_lt X h1)
  rw [e1] at h2
  cases h2
  exact ⟨y, e4, e5⟩
theorem no_change (X : Keyed w s.heap es ks) (hk : NestedIs s.heap k key) : (es.any fun e => e.key == key && e.hash != k.hash w) = false := by
  cases hz : es.any fun e => e.key == key && e.hash != k.hash w with
  | false => rfl
  | true =>
    obtain ⟨i, hi, hc⟩ := Array.any_eq_true.mp hz
    obtain ⟨e, y, e1, e2, e3, e4, e5⟩ := X.get (i := i) (by rw [← X.len]; exact hi)
    have ee : es[i] = e := by
      have z := Array.getElem?_eq_getElem hi
      rw [e1] at z
      exact (Option.some.inj z).symm
    rw [ee] at hc
    simp only [Bool.and_eq_true, beq_iff_eq, bne_iff_ne, ne_eq] at hc
    rw [hc.1] at e4
    exact (hc.2 (by rw [e3, NestedIs.inj _ _ _ e4 hk])).elim
theorem ifw {α : Type} {c : Bool} {a b : Sem α} {Q : α → Shared → Prop} (h1 : c = true → wpAny (model P w) A a Q E s) (h2 : c = false → wpAny (model P w) A b Q E s) : wpAny (model P w) A (if c = true then a else b) Q E s := by
  cases c with
  | true => exact h1 rfl
  | false => exact h2 rfl
/-- whether the table tells: it does not -/
theorem told {α : Type} {c : Bool} {f : Bool → Sem α} {st : List Value} {Q : α → Shared → Prop} (hk : NestedIs s.heap k key) (dk : k.depth ≤ 8) (hs : ∀ v ∈ st, ∃ x : NK, NestedIs s.heap x v ∧ x.depth ≤ 8) (h : wpAny (model P w) A (f false) Q E s) : wpAny (model P w) A (if c = true then (pure false >>= f) else (tableMayTell key st >>= f)) Q E s :=
  ifw (fun _ => wpAny_bind (wpAny_pure h)) fun _ => wpAny_bind (quiet_list hk dk hs h)
theorem plc_nd : (plc w es k).Nodup := by
  unfold plc placesWithHash
  exact List.nodup_range.sublist List.filter_sublist
/-- the hits so far -/
def Hit (ks : List NK) (k : NK) (rest : List Nat) (hit : Option Nat) : Prop := (hit = none ∧ ∀ i : Nat, ks[i]? = some k → i ∈ rest) ∨ ∃ j : Nat, hit = some j ∧ ks[j]? = some k ∧ j ∉ rest
theorem Hit.skip {rest : List Nat} {i : Nat} {hit : Option Nat} (h : Hit ks k (i :: rest) hit) (hi : ks[i]? ≠ some k) : Hit ks k rest hit := by
  rcases h with ⟨e, h⟩ | ⟨j, e, h1, h2⟩
  · refine .inl ⟨e, fun l hl => ?_⟩
    rcases List.mem_cons.mp (h l hl) with z | z
    · subst z
      exact (hi hl).elim
    · exact z
  · exact .inr ⟨j, e, h1, fun z => h2 (List.mem_cons_of_mem _ z)⟩
theorem Hit.now {rest : List Nat} {i : Nat} {hit : Option Nat} (hn : ks.Nodup) (h : Hit ks k (i :: rest) hit) (hi : ks[i]? = some k) : hit = none := by
  rcases h with ⟨e, h⟩ | ⟨j, e, h1, h2⟩
  · exact e
  · exact (h2 (by rw [one_place hn h1 hi]; exact List.mem_cons_self)).elim
/-- the place of a key -/
theorem find {Q : Option Nat → Shared → Prop} (hu : A.units + 8 < cLine) (X : Keyed w s.heap es ks) (ho : s.heap.get? d = some o) (hd : o.data = .dict es ep) (hk : NestedIs s.heap k key) (dk : k.depth ≤ 8) (ht : Tells ks k Q s) : wpAny (model P w) A (dictFind d key (k.hash w)) Q E s := by
  unfold dictFind
  refine wpAny_holding (wpAny_bind (wpAny_dictEntries ho hd ?_))
  have hst := stored_keys (k := k) X
  have hch := no_change X hk
  have hk0 := hk
  cases hk
  case' text x t =>
    dsimp only
    refine ifw (fun _ => by_value hu X ho hd ht) fun _ => ?_
  case' none => dsimp only
  case' bool => dsimp only
  case' int => dsimp only
  case' tup => dsimp only
  all_goals refine ifw (fun _ => by_plain hu X ho hd hk0 ht) fun _ => ?_
  case' tup => refine ifw (fun z => by rw [hch] at z; cases z) fun _ => ?_
  all_goals
    refine told hk0 dk hst ?_
    refine ifw (fun z => by cases z) fun _ => ?_
    refine wpAny_bind (wpAny_forIn_list _ (fun rest b s' => s' = s ∧ (∀ i ∈ rest, i ∈ plc w es _) ∧ rest.Nodup ∧ ∃ hit, b = (none, hit) ∧ Hit ks _ rest hit) _ ?_ ?_ _ _ ⟨rfl, fun _ h => h, plc_nd, none, rfl, .inl ⟨rfl, fun i hi => (plc_iff X i).mpr ⟨_, hi, rfl⟩⟩⟩)
    · rintro i rest b s' ⟨rfl, h1, hnd, hit, rfl, hH⟩
      obtain ⟨e, y, e1, e2, e3, e4, e5⟩ := X.get (plc_lt X (h1 i List.mem_cons_self))
      have hr : ∀ j ∈ rest, j ∈ plc w es _ := fun j hj => h1 j (List.mem_cons_of_mem _ hj)
      have hnd' := List.nodup_cons.mp hnd
      rw [e1]
      dsimp only
      refine ifw (fun _ => ?_) fun z => ?_
      · refine wpAny_bind (wpAny_dictEpoch ho hd (wpAny_bind (ask_eq hu e4 hk0 e5 (wpAny_bind (wpAny_dictEpoch ho hd ?_)))))
        refine ifw (fun z => by simp at z) fun _ => ?_
        refine ifw (fun z => ?_) fun z => ?_
        · have hy := of_decide_eq_true z
          rw [hy] at e2
          have hn := hH.now X.nd e2
          subst hn
          refine ifw (fun z => by cases z) fun _ => ?_
          refine wpAny_bind (wpAny_rule ?_)
          split
          · exact wpAny_pure (wpAny_pure (ht.2 i e2))
          · exact wpAny_pure ⟨rfl, hr, hnd'.2, some i, rfl, .inr ⟨i, rfl, e2, hnd'.1⟩⟩
        · have hy := of_decide_eq_false z
          refine wpAny_bind (wpAny_rule ?_)
          refine ifw (fun z => by cases z) fun _ => ?_
          exact wpAny_pure ⟨rfl, hr, hnd'.2, hit, rfl, hH.skip fun z => hy (by rw [e2] at z; exact Option.some.inj z)⟩
      · refine wpAny_pure ⟨rfl, hr, hnd'.2, hit, rfl, hH.skip fun z2 => ?_⟩
        rw [e2] at z2
        cases z2
        rw [e3] at z
        simp at z
    · rintro b s' ⟨rfl, _, _, hit, rfl, hH⟩
      rcases hH with ⟨rfl, h⟩ | ⟨j, rfl, hj, _⟩
      · exact wpAny_pure (ht.1 fun i hi => nomatch h i hi)
      · exact wpAny_pure (ht.2 j hj)
end
end MD
namespace MD
open PySem SeqAt
/-- entries: the key, the key's value, the value -/
abbrev Ent := NK × Value × Value
def entE (w : World) (x : Ent) : DictEntry := ⟨x.1.hash w, x.2.1, x.2.2⟩
def lookX (xs : List Ent) (k : NK) : Option Value := (xs.find? fun x => decide (x.1 = k)).map (·.2.2)
/-- the dict at d -/
def Dic (w : World) (h : Heap) (d : Addr) (xs : List Ent) : Prop := ∃ (o : Obj) (es : Array DictEntry) (ep : Nat), h.get? d = some o ∧ o.ExactDict ∧ o.data = .dict es ep ∧ es.toList = xs.map (entE w) ∧ (xs.map (·.1)).Nodup
def Kok (h : Heap) (xs : List Ent) : Prop := ∀ x ∈ xs, NestedIs h x.1 x.2.1 ∧ x.1.depth ≤ 8
section
variable {P : Program} {w : World} {A : Around} {E : Value → Shared → Prop} {s : Shared} {xs : List Ent} {k : NK} {key : Value} {d : Addr}
theorem keyed {es : Array DictEntry} {h : Heap} (he : es.toList = xs.map (entE w)) (hn : (xs.map (·.1)).Nodup) (hk : Kok h xs) : Keyed w h es (xs.map (·.1)) := by
  refine ⟨by rw [← Array.length_toList, he, List.length_map, List.length_map], fun i e k h1 h2 => ?_, fun k h => ?_, hn⟩
  · rw [← Array.getElem?_toList, he, List.getElem?_map] at h1
    rw [List.getElem?_map] at h2
    cases hx : xs[i]? with
    | none => rw [hx] at h1; cases h1
    | some x =>
      rw [hx] at h1 h2
      cases h1
      cases h2
      exact ⟨rfl, (hk x (List.mem_of_getElem? hx)).1⟩
  · obtain ⟨x, hx, rfl⟩ := List.mem_map.mp h
    exact (hk x hx).2
theorem look_at (hn : (xs.map (·.1)).Nodup) {i : Nat} {x : Ent} (h : xs[i]? = some x) : lookX xs x.1 = some x.2.2 := by
  induction xs generalizing i with
  | nil => simp at h
  | cons y ys ih =>
    rw [List.map_cons, List.nodup_cons] at hn
    unfold lookX
    rw [List.find?_cons]
    cases i with
    | zero =>
      cases h
      simp
    | succ j =>
      have h' : ys[j]? = some x := h
      have ne : ¬ y.1 = x.1 := fun z => hn.1 (z ▸ List.mem_map.mpr ⟨x, List.mem_of_getElem? h', rfl⟩)
      rw [decide_eq_false ne]
      exact ih hn.2 h'
theorem look_no (h : k ∉ xs.map (·.1)) : lookX xs k = none := by
  unfold lookX
  rw [List.find?_eq_none.mpr fun x hx => by
    simp only [decide_eq_true_eq]
    exact fun z => h (List.mem_map.mpr ⟨x, hx, z⟩)]
  rfl
theorem no_at (h : ∀ i : Nat, (xs.map (·.1))[i]? ≠ some k) : k ∉ xs.map (·.1) := fun z => by
  obtain ⟨i, hi⟩ := List.mem_iff_getElem?.mp z
  exact h i hi
theorem at_of {i : Nat} (h : (xs.map (·.1))[i]? = some k) : ∃ x, xs[i]? = some x ∧ x.1 = k := by
  rw [List.getElem?_map] at h
  cases hx : xs[i]? with
  | none => rw [hx] at h; cases h
  | some x => rw [hx] at h; cases h; exact ⟨x, rfl, rfl⟩
abbrev more (s : Shared) (k : NK) : Shared := { s with toks := s.toks + k.draws }
theorem get {Q : Option Value → Shared → Prop} (hu : A.units + 8 < cLine) (hm : Dic w s.heap d xs) (hx : Kok s.heap xs) (hk : NestedIs s.heap k key) (dk : k.depth ≤ 8) (h : Q (lookX xs k) (more s k)) : wpAny (model P w) A (dictGet d key) Q E s := by
  obtain ⟨o, es, ep, ho, hc, hd, he, hn⟩ := hm
  unfold dictGet
  refine wpAny_holding (wpAny_bind (pyHash_key k key A s _ hk (by omega) (wpAny_bind (find (s := more s k) hu (keyed he hn hx) ho hd hk dk ⟨fun z => ?_, fun i hi => ?_⟩))))
  · rw [look_no (no_at z)] at h
    exact wpAny_pure h
  · obtain ⟨x, e1, rfl⟩ := at_of hi
    rw [look_at hn e1] at h
    refine wpAny_bind (wpAny_dictEntries (s := more s x.1) ho hd ?_)
    have e2 : es[i]? = some (entE w x) := by rw [← Array.getElem?_toList, he, List.getElem?_map, e1]; rfl
    rw [e2]
    exact wpAny_pure h
theorem typ (hm : Dic w s.heap d xs) : s.TypeIs (.ref d) "dict" := let ⟨o, _, _, ho, hc, _⟩ := hm; ⟨o, ho, hc.1⟩
end
end MD
namespace MD
open PySem PySem.Spec PyProof.Rows L2
/-- an entry: the key, the key's value, the value, without the heap -/
abbrev EntV := NK × V × V
mutual
/-- the value v is the key k -/
def KeyV (K : PySem.W.Frag) (H : Hp) : NK → V → Prop
  | .text x, v => v = .str x
  | .num i, v => v = .int i
  | .tup ks, v => ∃ a xs, v = .ref a ∧ SqT K H a xs ∧ KeyVs K H ks xs
  | .none, v => v = .non
def KeyVs (K : PySem.W.Frag) (H : Hp) : List NK → List V → Prop
  | [], vs => vs = []
  | k :: ks, vs => ∃ v vr, vs = v :: vr ∧ KeyV K H k v ∧ KeyVs K H ks vr
end
def RelE (y : EntV) (x : Ent) : Prop := y.1 = x.1 ∧ RelV y.2.1 x.2.1 ∧ RelV y.2.2 x.2.2
/-- a dict of such keys -/
def MixP (w : World) (a : Addr) (ys : List EntV) (h : Heap) : Prop := ys.length ≤ sizeLine ∧ (a == sysModules) = false ∧ ∃ xs, Dic w h a xs ∧ Paired RelE ys xs
def MixO (w : World) (a : Addr) (ys : List EntV) : HO := .ext (MixP w a ys)
section
variable {w : World} {h h' : Heap} {a : Addr} {ys : List EntV} {xs : List Ent} {k : NK}
/-- a heap of like objects -/
def likeH (o : Obj) (n : Nat) : Heap := { objs := Array.replicate n o }
theorem like_get {o : Obj} {n : Nat} (hf : ∀ x y z, o ≠ ⟨x, y, .freed, z⟩) (b : Addr) : (likeH o n).get? b = if b < n then some o else none := by
  unfold likeH Heap.get?
  dsimp only
  rw [Array.getElem?_replicate]
  by_cases hb : b < n
  · rw [if_pos hb]
    split
    · rename_i e
      exact (hf _ _ _ (Option.some.inj e)).elim
    · rfl
  · rw [if_neg hb]
theorem mix_ne {c : Addr} {q : Str} : MixO w a ys ≠ LamX.CodeO c q := fun z => by
  unfold MixO LamX.CodeO at z
  have e := congrFun (HO.ext.inj z) (likeH { cls := .none, data := .fields #[.none, .str q 0] } (c + 1))
  have g := like_get (o := { cls := .none, data := .fields #[.none, .str q 0] }) (n := c + 1) (fun _ _ _ z => by cases z)
  have h2 : MixP w a ys (likeH { cls := .none, data := .fields #[.none, .str q 0] } (c + 1)) := by
    rw [e]
    refine ⟨_, _, 0, (g c).trans (if_pos (Nat.lt_succ_self c)), rfl, rfl⟩
  obtain ⟨_, _, xs, ⟨o, es, ep, ho, hc, hd, _⟩, _⟩ := h2
  rw [g a] at ho
  split at ho
  · cases ho
    cases hd
  · cases ho
end
section
variable {X : Cx} {pins : List (Addr × Obj)} {σ : L2.St} {H : Hp} {s : Shared} {a : Addr}
mutual
theorem KeyV.nested (I : Inv X pins σ H s) : ∀ (k : NK) (v : V) (u : Value), KeyV X.K H k v → RelV v u → NestedIs s.heap k u
  | .text x, v, u, h, r => by
    rw [KeyV] at h
    subst h
    obtain ⟨t, rfl⟩ := r
    exact .text x t
  | .num i, v, u, h, r => by
    rw [KeyV] at h
    subst h
    obtain ⟨t, rfl⟩ := r
    exact .int i t
  | .none, v, u, h, r => by
    rw [KeyV] at h
    subst h
    cases r
    exact .none
  | .tup ks, v, u, h, r => by
    rw [KeyV] at h
    obtain ⟨a, xs, rfl, q, hk⟩ := h
    obtain rfl : u = Value.ref a := r
    obtain ⟨its, rv, ⟨o, h1, h2, n, h3⟩, _⟩ := I.tuple q
    exact .tup h1 h2 h3 (KeyVs.nested I ks xs its hk rv)
theorem KeyVs.nested (I : Inv X pins σ H s) : ∀ (ks : List NK) (vs : List V) (us : List Value), KeyVs X.K H ks vs → Vals vs us → NestedAll s.heap ks us
  | [], vs, us, h, r => by
    rw [KeyVs] at h
    subst h
    cases r
    exact .nil
  | k :: ks, vs, us, h, r => by
    rw [KeyVs] at h
    obtain ⟨v, vr, rfl, h1, h2⟩ := h
    cases r with
    | cons r1 r2 => exact .cons (KeyV.nested I k v _ h1 r1) (KeyVs.nested I ks vr _ h2 r2)
end
end
/-! rules -/
section
variable {X : Cx} {o i e value : Expr} {pos pos' tpos : Pos} {td ty tv : TE}
end
end MD
namespace DL
open PySem PySem.Spec PyProof.Rows L2
/-- the tables of code objects that are kept in sight: of each the name that its code objects bear -/
class TabC where
  T : List (Addr × Str)
  w : World
/-! data: a value without its addresses -/
abbrev AS := Addr → Prop
inductive D where
  | non | bl (b : Bool) | int (i : Int) | str (x : Str) | raw (v : V) | st
  | tup (xs : List D) | lst (xs : List D) | dic (kvs : List (Key × D)) | dmx (kvs : List (D × D)) | obj (C : Str) (fs : List (Str × D)) | exc (C : Str) (fs : List (Str × D))

mutual
def nkey : D → Option MD.NK
  | .str x => some (.text x)
  | .int i => some (.num i)
  | .non => some .none
  | .tup ds => (nkeys ds).map .tup
  | _ => none
def nkeys : List D → Option (List MD.NK)
  | [] => some []
  | d :: ds => (nkey d).bind fun k => (nkeys ds).map fun ks => k :: ks
end
variable [TabC]
/-- a tuple: tracked, or the module's own -/
def TpA (K : PySem.W.Frag) (H : Hp) (a : Addr) (xs : List V) : Prop :=
  H a = some (.tup xs) ∨ ∃ (o : Obj) (its : Array Value) (n : Nat), K.lookup a = some o ∧ o.cls = .type "tuple" ∧ o.data = .seq its n ∧ its.size ≤ sizeLine ∧ Vals xs its.toList
theorem TpA.sq {K : PySem.W.Frag} {H : Hp} {a : Addr} {xs : List V} (h : TpA K H a xs) : SqT K H a xs := h.elim (fun h => .inl (.inl h)) fun h => .inr h
/-- an exception object of the class cls, its dict at d, at a -/
def ExD (cls : Value) (d : Option Addr) (a : Addr) : HO := .ext fun h => ∃ (oe : Obj) (vs : Array Value), h.get? a = some oe ∧ Zc cls d oe ∧ oe.data = .fields vs
/-- an exception's dict, or an exception -/
inductive XO : HO → Prop
  | xd (ys : List (Str × V)) : XO (.xd ys)
  | ex (cls : Value) (d : Option Addr) (a : Addr) : XO (ExD cls d a)
theorem XO.nlst {u : HO} (h : XO u) : ∀ xs, u ≠ .lst xs := by
  cases h with
  | xd ys => exact fun _ z => nomatch z
  | ex c d a => exact fun _ z => by unfold ExD at z; cases z
theorem XO.nins {u : HO} (h : XO u) : ∀ C dx xs, u ≠ .ins C dx xs := by
  cases h with
  | xd ys => exact fun _ _ _ z => nomatch z
  | ex c d a => exact fun _ _ _ z => by unfold ExD at z; cases z
theorem XO.ndK {u : HO} (h : XO u) : ∀ xs, u ≠ .dK xs := by
  cases h with
  | xd ys => exact fun _ z => nomatch z
  | ex c d a => exact fun _ z => by unfold ExD at z; cases z
theorem XO.nfrz {u : HO} (h : XO u) : ∀ o xs, u ≠ .frz o xs := by
  cases h with
  | xd ys => exact fun _ _ z => nomatch z
  | ex c d a => exact fun _ _ z => by unfold ExD at z; cases z
mutual
def Rep (K : PySem.W.Frag) (aS : Addr) (H : Hp) (A : AS) : D → V → Prop
  | .non, v => v = .non
  | .bl b, v => v = .bl b
  | .int i, v => v = .int i
  | .str x, v => v = .str x
  | .raw u, v => v = u
  | .st, v => v = .ref aS
  | .tup ds, v => ∃ a xs, v = .ref a ∧ TpA K H a xs ∧ RepL K aS H A ds xs
  | .lst ds, v => ∃ a xs, v = .ref a ∧ ¬ A a ∧ H a = some (.lst xs) ∧ RepL K aS H A ds xs
  | .dic kvs, v => ∃ a ys, v = .ref a ∧ ¬ A a ∧ Rd H a (.dK ys) ∧ RepK K aS H A kvs ys
  | .dmx kvs, v => ∃ a ys, v = .ref a ∧ ¬ A a ∧ Rd H a (MD.MixO TabC.w a ys) ∧ RepP K aS H A kvs ys
  | .obj C fs, v => ∃ a dx ys, v = .ref a ∧ ¬ A a ∧ H a = some (.ins (He.ga K C) dx ys) ∧ RepF K aS H A fs ys
  | .exc C fs, v => ∃ a, v = .ref a ∧ ¬ A a ∧ ((H a = some (ExD (.ref (He.ga K C)) none a) ∧ fs = []) ∨ ∃ x ys, H a = some (ExD (.ref (He.ga K C)) (some x) a) ∧ ¬ A x ∧ H x = some (.xd ys) ∧ RepF K aS H A fs ys)
def RepP (K : PySem.W.Frag) (aS : Addr) (H : Hp) (A : AS) : List (D × D) → List MD.EntV → Prop
  | [], vs => vs = []
  | (k, d) :: ds, vs => ∃ nk kv v vr, vs = (nk, kv, v) :: vr ∧ (nkey k = some nk ∧ nk.depth ≤ 8) ∧ Rep K aS H A k kv ∧ Rep K aS H A d v ∧ RepP K aS H A ds vr
def RepL (K : PySem.W.Frag) (aS : Addr) (H : Hp) (A : AS) : List D → List V → Prop
  | [], vs => vs = []
  | d :: ds, vs => ∃ v vr, vs = v :: vr ∧ Rep K aS H A d v ∧ RepL K aS H A ds vr
def RepK (K : PySem.W.Frag) (aS : Addr) (H : Hp) (A : AS) : List (Key × D) → List (Key × V) → Prop
  | [], vs => vs = []
  | (k, d) :: ds, vs => ∃ v vr, vs = (k, v) :: vr ∧ Rep K aS H A d v ∧ RepK K aS H A ds vr
def RepF (K : PySem.W.Frag) (aS : Addr) (H : Hp) (A : AS) : List (Str × D) → List (Str × V) → Prop
  | [], vs => vs = []
  | (k, d) :: ds, vs => ∃ v vr, vs = (k, v) :: vr ∧ Rep K aS H A d v ∧ RepF K aS H A ds vr
end
section
variable {K : PySem.W.Frag} {aS : Addr} {H H' : Hp} {A A' : AS}
/-- what a heap's change must keep -/
structure Sub (K : PySem.W.Frag) (H H' : Hp) (A A' : AS) : Prop where
  l : ∀ a xs, ¬ A a → H a = some (.lst xs) → ¬ A' a ∧ H' a = some (.lst xs)
  t : ∀ a xs, TpA K H a xs → TpA K H' a xs
  d : ∀ a ys, ¬ A a → Rd H a (.dK ys) → ¬ A' a ∧ Rd H' a (.dK ys)
  m : ∀ a ys, ¬ A a → Rd H a (MD.MixO TabC.w a ys) → ¬ A' a ∧ Rd H' a (MD.MixO TabC.w a ys)
  o : ∀ a C dx ys, ¬ A a → H a = some (.ins C dx ys) → ¬ A' a ∧ H' a = some (.ins C dx ys)
  x : ∀ a u, XO u → ¬ A a → H a = some u → ¬ A' a ∧ H' a = some u
mutual
theorem Rep.mono (S : Sub K H H' A A') : ∀ (d : D) (v : V), Rep K aS H A d v → Rep K aS H' A' d v
  | .non, v, h => by rw [Rep] at h ⊢; exact h
  | .bl b, v, h => by rw [Rep] at h ⊢; exact h
  | .int i, v, h => by rw [Rep] at h ⊢; exact h
  | .str x, v, h => by rw [Rep] at h ⊢; exact h
  | .raw u, v, h => by rw [Rep] at h ⊢; exact h
  | .st, v, h => by rw [Rep] at h ⊢; exact h
  | .tup ds, v, h => by
    rw [Rep] at h ⊢
    obtain ⟨a, xs, e, q, r⟩ := h
    exact ⟨a, xs, e, S.t a xs q, RepL.mono S ds xs r⟩
  | .lst ds, v, h => by
    rw [Rep] at h ⊢
    obtain ⟨a, xs, e, n, q, r⟩ := h
    obtain ⟨n', q'⟩ := S.l a xs n q
    exact ⟨a, xs, e, n', q', RepL.mono S ds xs r⟩
  | .dic kvs, v, h => by
    rw [Rep] at h ⊢
    obtain ⟨a, ys, e, n, q, r⟩ := h
    obtain ⟨n', q'⟩ := S.d a ys n q
    exact ⟨a, ys, e, n', q', RepK.mono S kvs ys r⟩
  | .dmx kvs, v, h => by
    rw [Rep] at h ⊢
    obtain ⟨a, ys, e, n, q, r⟩ := h
    obtain ⟨n', q'⟩ := S.m a ys n q
    exact ⟨a, ys, e, n', q', RepP.mono S kvs ys r⟩
  | .obj C fs, v, h => by
    rw [Rep] at h ⊢
    obtain ⟨a, dx, ys, e, n, q, r⟩ := h
    obtain ⟨n', q'⟩ := S.o a _ dx ys n q
    exact ⟨a, dx, ys, e, n', q', RepF.mono S fs ys r⟩
  | .exc C fs, v, h => by
    rw [Rep] at h ⊢
    obtain ⟨a, e, n, h⟩ := h
    rcases h with ⟨h, z⟩ | ⟨x, ys, h, nx, hx, r⟩
    · obtain ⟨n', q'⟩ := S.x a _ (.ex _ _ _) n h
      exact ⟨a, e, n', .inl ⟨q', z⟩⟩
    · obtain ⟨n', q'⟩ := S.x a _ (.ex _ _ _) n h
      obtain ⟨nx', qx'⟩ := S.x x _ (.xd ys) nx hx
      exact ⟨a, e, n', .inr ⟨x, ys, q', nx', qx', RepF.mono S fs ys r⟩⟩
theorem RepP.mono (S : Sub K H H' A A') : ∀ (ds : List (D × D)) (vs : List MD.EntV), RepP K aS H A ds vs → RepP K aS H' A' ds vs
  | [], vs, h => by rw [RepP] at h ⊢; exact h
  | (k, d) :: ds, vs, h => by
    rw [RepP] at h ⊢
    obtain ⟨nk, kv, v, vr, e, z, rk, r, q⟩ := h
    exact ⟨nk, kv, v, vr, e, z, Rep.mono S k kv rk, Rep.mono S d v r, RepP.mono S ds vr q⟩
theorem RepL.mono (S : Sub K H H' A A') : ∀ (ds : List D) (vs : List V), RepL K aS H A ds vs → RepL K aS H' A' ds vs
  | [], vs, h => by rw [RepL] at h ⊢; exact h
  | d :: ds, vs, h => by
    rw [RepL] at h ⊢
    obtain ⟨v, vr, e, r, q⟩ := h
    exact ⟨v, vr, e, Rep.mono S d v r, RepL.mono S ds vr q⟩
theorem RepK.mono (S : Sub K H H' A A') : ∀ (ds : List (Key × D)) (vs : List (Key × V)), RepK K aS H A ds vs → RepK K aS H' A' ds vs
  | [], vs, h => by rw [RepK] at h ⊢; exact h
  | (k, d) :: ds, vs, h => by
    rw [RepK] at h ⊢
    obtain ⟨v, vr, e, r, q⟩ := h
    exact ⟨v, vr, e, Rep.mono S d v r, RepK.mono S ds vr q⟩
theorem RepF.mono (S : Sub K H H' A A') : ∀ (ds : List (Str × D)) (vs : List (Str × V)), RepF K aS H A ds vs → RepF K aS H' A' ds vs
  | [], vs, h => by rw [RepF] at h ⊢; exact h
  | (k, d) :: ds, vs, h => by
    rw [RepF] at h ⊢
    obtain ⟨v, vr, e, r, q⟩ := h
    exact ⟨v, vr, e, Rep.mono S d v r, RepF.mono S ds vr q⟩
end
end
end DL
namespace DL
open PySem PySem.Spec PyProof.Rows L2
variable [TabC]
abbrev Ev := List (Option D)
/-- the tables in sight -/
def TbA (H : Hp) : Prop := LamX.Tabs TabC.T H ∧ ∀ b ps, H b = some (.tbl ps) → True
/-- grown, by no table -/
def Gr (H H' : Hp) : Prop := (∀ b u, H b = some u → H' b = some u) ∧ ∀ b ps, H' b = some (.tbl ps) → H b = some (.tbl ps)
theorem Gr.refl (H : Hp) : Gr H H := ⟨fun _ _ h => h, fun _ _ h => h⟩
theorem Gr.upd {H : Hp} {p : Addr} {o : HO} (hp : H p = none) (ho : ∀ ps, o ≠ .tbl ps := by intro _ z; cases z) : Gr H (L2.upd H p o) := ⟨fun b u e => by rw [upd_ne (ne_of_none e hp)]; exact e, fun b ps e => by
  by_cases z : b = p
  · rw [z, upd_same] at e
    exact (ho _ (Option.some.inj e)).elim
  · rw [upd_ne z] at e
    exact e⟩
theorem Gr.trans {H H' H'' : Hp} (a : Gr H H') (b : Gr H' H'') : Gr H H'' := ⟨fun c u e => b.1 c u (a.1 c u e), fun c ps e => a.2 c ps (b.2 c ps e)⟩
/-- the state of the draws -/
def StA (K : PySem.W.Frag) (aS : Addr) (H : Hp) (n : Nat) : Prop := ∃ (a0 : Addr) (cs : List Int) (i g m d : Int), H aS = some (.lst [.ref a0, .int i, .int g, .int m, .int d]) ∧ a0 ≠ aS ∧
  (∃ o, H a0 = some (.frz o (.lst (cs.map V.int)))) ∧ 0 ≤ i ∧ 0 ≤ g ∧ 0 ≤ m ∧ m < 2147483647 ∧ 0 ≤ d ∧ d ≤ n ∧ TbA H
/-- a thing stays; a table of code objects may grow -/
def Kp1 (u : HO) (o : Option HO) : Prop := match u with
  | .tbl _ => ∃ ps, o = some (.tbl ps)
  | u => o = some u
theorem Kp1.of {u : HO} {o : Option HO} (h : o = some u) : Kp1 u o := by
  cases u with
  | tbl ps => exact ⟨ps, h⟩
  | _ => exact h
theorem Kp1.dom {u : HO} {o : Option HO} (h : Kp1 u o) : ∃ v, o = some v := by
  cases u with
  | tbl ps => exact h.elim fun p e => ⟨_, e⟩
  | _ => exact ⟨_, h⟩
theorem Kp1.trans {u : HO} {o p : Option HO} (h : Kp1 u o) (k : ∀ v, o = some v → Kp1 v p) : Kp1 u p := by
  cases u with
  | tbl ps =>
    obtain ⟨p1, e⟩ := h
    have z := k _ e
    exact z
  | _ => exact k _ h
theorem Kp1.xo {u : HO} {o : Option HO} (hu : XO u) (h : Kp1 u o) : o = some u := by
  cases hu with
  | xd ys => exact h
  | ex c d a => exact h
def KpS (aS : Addr) (H H' : Hp) : Prop := ∀ b u, H b = some u → b ≠ aS → Kp1 u (H' b)
/-- an exception: its class and fields -/
abbrev XD := Str × List (Str × D)
abbrev XQ := XD → Nat → Prop
abbrev EF : XK := fun _ _ _ => False
abbrev EM (α : Type) := XQ → Ev → Nat → (α → Nat → Prop) → Prop
/-- what the caller keeps for himself; the instance that slot 0 owns, in an __init__ -/
structure A0T where
  p : Addr → Prop
  z : Option Addr := none
instance : CoeFun A0T (fun _ => Addr → Prop) := ⟨A0T.p⟩
instance : Coe A0T (Addr → Prop) := ⟨A0T.p⟩
/-- what may not be met: what the caller keeps for himself, the state, what slots own -/
def AV (aS : Addr) (A0 : AS) (O : List Nat) (σ : L2.St) : AS := fun a => A0 a ∨ a = aS ∨ ∃ i, i ∈ O ∧ σ[i]? = some (some (.ref a))
/-- an own list | dict | instance -/
def Own (K : PySem.W.Frag) (aS : Addr) (H : Hp) (A : AS) (a : Addr) : D → Prop
  | .lst ds => ∃ xs, H a = some (.lst xs) ∧ RepL K aS H A ds xs
  | .dic kvs => ∃ ys, H a = some (.dK ys) ∧ RepK K aS H A kvs ys
  | .dmx kvs => ∃ ys, H a = some (MD.MixO TabC.w a ys) ∧ RepP K aS H A kvs ys
  | .obj C fs => ∃ dx ys, H a = some (.ins (He.ga K C) dx ys) ∧ RepF K aS H A fs ys
  | _ => False
structure SR (K : PySem.W.Frag) (aS : Addr) (O : List Nat) (A0 : A0T) (H0 : Hp) (σ : L2.St) (H : Hp) (s : Ev) (n : Nat) : Prop where
  len : σ.length = s.length
  sh : ∀ i d, s[i]? = some (some d) → i ∉ O → ∃ v, σ[i]? = some (some v) ∧ Rep K aS H (AV aS A0 O σ) d v
  ow : ∀ i, i ∈ O → ∃ d a, s[i]? = some (some d) ∧ σ[i]? = some (some (.ref a)) ∧ H0 a = none ∧ ¬ A0 a ∧ a ≠ aS ∧ Own K aS H (AV aS A0 O σ) a d
  ds : ∀ i j a, i ∈ O → j ∈ O → σ[i]? = some (some (.ref a)) → σ[j]? = some (some (.ref a)) → i = j
  fr : KpS aS H0 H
  st : StA K aS H n
  av : ∀ a, A0 a → ∃ u, H a = some u
  pn : 0 ∈ O → ∀ a, A0.z = some a → σ[0]? = some (some (.ref a))
section
variable {K : PySem.W.Frag} {aS : Addr} {H H' H'' H0 : Hp} {A A' : AS} {A0 : A0T} {O : List Nat} {σ : L2.St} {s : Ev} {n n' : Nat}
theorem KpS.refl : KpS aS H H := fun _ _ h _ => .of h
theorem KpS.trans (a : KpS aS H H') (b : KpS aS H' H'') : KpS aS H H'' := fun x u h n => (a x u h n).trans fun v e => b x v e n
theorem KpS.upd {p : Addr} {o : HO} (h : H p = none) : KpS aS H (upd H p o) := fun b u e _ => .of (by rw [upd_ne (ne_of_none e h)]; exact e)
theorem tabs_poke0 {T : List (Addr × Str)} {b : Addr} {o o' : HO} (t : LamX.Tabs T H) (hb : H b = some o) (n1 : ∀ ps, o ≠ .tbl ps) (n2 : ∀ c q, o ≠ LamX.CodeO c q) : LamX.Tabs T (upd H b o') := fun p hp => by
  obtain ⟨ps, h1, h2, h3⟩ := t p hp
  refine ⟨ps, by rw [upd_ne (fun z => by rw [z, hb] at h1; exact n1 _ (Option.some.inj h1))]; exact h1, h2, fun pos cv hc => ?_⟩
  obtain ⟨c, e1, e2⟩ := h3 pos cv hc
  exact ⟨c, e1, by rw [upd_ne (fun z => by rw [z, hb] at e2; exact n2 _ _ (Option.some.inj e2))]; exact e2⟩
theorem tabs_poke {b : Addr} {o o' : HO} (t : TbA H) (hb : H b = some o) (n1 : ∀ ps, o ≠ .tbl ps) (n2 : ∀ c q, o ≠ LamX.CodeO c q) (n3 : ∀ ps, o' ≠ .tbl ps := by intro _ z; cases z) : TbA (upd H b o') := ⟨tabs_poke0 t.1 hb n1 n2, fun c ps e => by
  by_cases z : c = b
  · rw [z, upd_same] at e
    exact (n3 _ (Option.some.inj e)).elim
  · rw [upd_ne z] at e
    exact t.2 c ps e⟩
theorem Own.plain {d : D} {a : Addr} {o : HO} (h : Own K aS H A a d) (ho : H a = some o) : (∀ ps, o ≠ .tbl ps) ∧ ∀ c q, o ≠ LamX.CodeO c q := by
  cases d with
  | lst ds => obtain ⟨xs, e, q⟩ := h; rw [ho] at e; cases e; exact ⟨(fun _ z => nomatch z), (fun c q z => by unfold LamX.CodeO at z; cases z)⟩
  | dic ds => obtain ⟨xs, e, q⟩ := h; rw [ho] at e; cases e; exact ⟨(fun _ z => nomatch z), (fun c q z => by unfold LamX.CodeO at z; cases z)⟩
  | dmx ds => obtain ⟨xs, e, q⟩ := h; rw [ho] at e; cases e; exact ⟨(fun ps z => by unfold MD.MixO at z; cases z), fun c q => MD.mix_ne⟩
  | obj C ds => obtain ⟨dx, xs, e, q⟩ := h; rw [ho] at e; cases e; exact ⟨(fun _ z => nomatch z), (fun c q z => by unfold LamX.CodeO at z; cases z)⟩
  | _ => exact h.elim
theorem KpS.lst (k : KpS aS H H') {a : Addr} {xs : List V} (h : H a = some (.lst xs)) (n : a ≠ aS) : H' a = some (.lst xs) := k _ (.lst xs) h n
theorem KpS.dk (k : KpS aS H H') {a : Addr} {xs : List (Key × V)} (h : H a = some (.dK xs)) (n : a ≠ aS) : H' a = some (.dK xs) := k _ (.dK xs) h n
theorem KpS.xo (k : KpS aS H H') {a : Addr} {u : HO} (hu : XO u) (h : H a = some u) (n : a ≠ aS) : H' a = some u := Kp1.xo hu (k a u h n)
theorem KpS.upd2 (k : KpS aS H H') {p : Addr} {o : HO} (hp : H p = none) : KpS aS H (L2.upd H' p o) := fun b u e z => (k b u e z).trans fun v e' => .of (by rw [upd_ne (ne_of_none e hp)]; exact e')
theorem KpS.gone (k : KpS aS H H') {a : Addr} {u : HO} (ha : H' a = none) (z : H a = some u) (hn : a ≠ aS) : False := by
  obtain ⟨v, e⟩ := (k a u z hn).dom
  rw [ha] at e
  cases e
theorem StA.lst (h : StA K aS H n) : ∃ xs, H aS = some (.lst xs) := by
  obtain ⟨a0, cs, i, g, m, d, e, _⟩ := h
  exact ⟨_, e⟩
theorem TpA.kp (k : KpS aS H H') {a : Addr} {xs ys : List V} (hs : H aS = some (.lst ys)) (h : TpA K H a xs) : TpA K H' a xs := by
  rcases h with h | h
  · exact .inl (k _ _ h fun e => by rw [e, hs] at h; cases h)
  · exact .inr h
theorem Rd.kp (k : KpS aS H H') {a : Addr} {ys : List (Key × V)} (hn : a ≠ aS) (h : Rd H a (.dK ys)) : Rd H' a (.dK ys) := by
  rcases h with h | ⟨o, h⟩
  · exact .inl (k _ (.dK ys) h hn)
  · exact .inr ⟨o, k _ (.frz o (.dK ys)) h hn⟩
theorem RdM.kp (k : KpS aS H H') {a b : Addr} {ys : List MD.EntV} (hn : a ≠ aS) (h : Rd H a (MD.MixO TabC.w b ys)) : Rd H' a (MD.MixO TabC.w b ys) := by
  rcases h with h | ⟨o, h⟩
  · exact .inl (k _ _ h hn)
  · exact .inr ⟨o, k _ (.frz o _) h hn⟩
theorem sub_kp (k : KpS aS H H') (hs : ∃ ys, H aS = some (.lst ys)) (hA : A aS) (hle : ∀ a, A' a → A a) : Sub K H H' A A' := by
  obtain ⟨ys, hs⟩ := hs
  have ne : ∀ a, ¬ A a → a ≠ aS := fun a h e => h (e ▸ hA)
  exact ⟨fun a xs h q => ⟨fun z => h (hle a z), k _ _ q (ne a h)⟩, fun a xs q => TpA.kp k hs q, fun a ys h q => ⟨fun z => h (hle a z), Rd.kp k (ne a h) q⟩, fun a ys h q => ⟨fun z => h (hle a z), RdM.kp k (ne a h) q⟩, fun a C dx ys h q => ⟨fun z => h (hle a z), k _ _ q (ne a h)⟩, fun a u hx h q => ⟨fun z => h (hle a z), k.xo hx q (ne a h)⟩⟩
theorem AV.st {A0 : AS} : AV aS A0 O σ aS := .inr (.inl rfl)
theorem Rep.kp (k : KpS aS H H') (hs : StA K aS H n) (hA : A aS) {d : D} {v : V} (r : Rep K aS H A d v) : Rep K aS H' A d v := Rep.mono (sub_kp k hs.lst hA fun _ z => z) d v r
theorem RepL.kp (k : KpS aS H H') (hs : StA K aS H n) (hA : A aS) {d : List D} {v : List V} (r : RepL K aS H A d v) : RepL K aS H' A d v := RepL.mono (sub_kp k hs.lst hA fun _ z => z) d v r
theorem RepK.kp (k : KpS aS H H') (hs : StA K aS H n) (hA : A aS) {d : List (Key × D)} {v : List (Key × V)} (r : RepK K aS H A d v) : RepK K aS H' A d v := RepK.mono (sub_kp k hs.lst hA fun _ z => z) d v r
theorem RepF.kp (k : KpS aS H H') (hs : StA K aS H n) (hA : A aS) {d : List (Str × D)} {v : List (Str × V)} (r : RepF K aS H A d v) : RepF K aS H' A d v := RepF.mono (sub_kp k hs.lst hA fun _ z => z) d v r
theorem RepP.kp (k : KpS aS H H') (hs : StA K aS H n) (hA : A aS) {d : List (D × D)} {v : List MD.EntV} (r : RepP K aS H A d v) : RepP K aS H' A d v := RepP.mono (sub_kp k hs.lst hA fun _ z => z) d v r
theorem Own.kp (k : KpS aS H H') (hs : StA K aS H n) (hA : A aS) {d : D} {a : Addr} (ha : a ≠ aS) (r : Own K aS H A a d) : Own K aS H' A a d := by
  cases d with
  | lst ds => obtain ⟨xs, e, q⟩ := r; exact ⟨xs, k _ _ e ha, q.kp k hs hA⟩
  | dic ds => obtain ⟨xs, e, q⟩ := r; exact ⟨xs, k _ _ e ha, q.kp k hs hA⟩
  | dmx ds => obtain ⟨xs, e, q⟩ := r; exact ⟨xs, k _ _ e ha, q.kp k hs hA⟩
  | obj C ds => obtain ⟨dx, xs, e, q⟩ := r; exact ⟨dx, xs, k _ _ e ha, q.kp k hs hA⟩
  | _ => exact r
/-- behind an expression -/
theorem SR.step (S : SR K aS O A0 H0 σ H s n) (k : KpS aS H H') (t : StA K aS H' n') : SR K aS O A0 H0 σ H' s n' where
  len := S.len
  sh := fun i d h1 h2 => let ⟨v, e, r⟩ := S.sh i d h1 h2; ⟨v, e, r.kp k S.st AV.st⟩
  ow := fun i h => let ⟨d, a, e1, e2, e3, e4, e5, e6⟩ := S.ow i h; ⟨d, a, e1, e2, e3, e4, e5, e6.kp k S.st AV.st e5⟩
  ds := S.ds
  fr := S.fr.trans k
  st := t
  av := fun a h => by
    obtain ⟨u, e⟩ := S.av a h
    by_cases ha : a = aS
    · obtain ⟨xs, q⟩ := t.lst
      exact ⟨_, ha ▸ q⟩
    · exact (k _ _ e ha).dom
  pn := S.pn
theorem SR.new (S : SR K aS O A0 H0 σ H s n) {a : Addr} (h : H a = none) : ¬ AV aS A0 O σ a := fun z => by
  rcases z with z | z | ⟨i, hi, z⟩
  · obtain ⟨u, e⟩ := S.av a z
    rw [h] at e; cases e
  · obtain ⟨xs, q⟩ := S.st.lst
    rw [z, q] at h; cases h
  · obtain ⟨d, b, e1, e2, e3, e4, e5, e6⟩ := S.ow i hi
    rw [z] at e2
    cases e2
    cases d with
    | lst ds => obtain ⟨xs, e, q⟩ := e6; rw [h] at e; cases e
    | dic ds => obtain ⟨xs, e, q⟩ := e6; rw [h] at e; cases e
    | dmx ds => obtain ⟨xs, e, q⟩ := e6; rw [h] at e; cases e
    | obj C ds => obtain ⟨dx, xs, e, q⟩ := e6; rw [h] at e; cases e
    | _ => exact e6.elim
end
/-- what is wanted of a raise -/
def LX (K : PySem.W.Frag) (E : XK) (aS : Addr) (A0 : AS) (H0 : Hp) (xq : XQ) : Prop :=
  ∀ (C : Str) (fs : List (Str × D)) (n : Nat) (d : Option Addr) (H' : Hp), KpS aS H0 H' → StA K aS H' n → (match d with | none => fs = [] | some a => ∃ ys, H0 a = none ∧ H' a = some (.xd ys) ∧ RepF K aS H' (AV aS A0 [] []) fs ys) → xq (C, fs) n → E (.ref (He.ga K C)) d H'
/-- .. its own place may be owned -/
def RepB (K : PySem.W.Frag) (aS : Addr) (H : Hp) (A : AS) : D → V → Prop
  | .lst ds, v => ∃ a xs, v = .ref a ∧ a ≠ aS ∧ H a = some (.lst xs) ∧ RepL K aS H A ds xs
  | .dic kvs, v => ∃ a ys, v = .ref a ∧ a ≠ aS ∧ Rd H a (.dK ys) ∧ RepK K aS H A kvs ys
  | .dmx kvs, v => ∃ a ys, v = .ref a ∧ a ≠ aS ∧ Rd H a (MD.MixO TabC.w a ys) ∧ RepP K aS H A kvs ys
  | .obj C fs, v => ∃ a dx ys, v = .ref a ∧ a ≠ aS ∧ H a = some (.ins (He.ga K C) dx ys) ∧ RepF K aS H A fs ys
  | d, v => Rep K aS H A d v
abbrev RK := PySem.W.Frag → Addr → Hp → AS → D → V → Prop
def Mn {α : Type} (m : EM α) : Prop := ∀ xq s n (Q Q' : α → Nat → Prop), (∀ d n', Q d n' → Q' d n') → m xq s n Q → m xq s n Q'
/-- an expression read over data -/
def VX (R : RK) (X : Cx) (E : XK) (O : List Nat) (e : Expr) (m : EM D) : Prop := Mn m ∧ ∃ t, PE X e t ∧ ∀ (aS : Addr) (A0 : A0T) (H0 : Hp) (σ : L2.St) (H : Hp) (s : Ev) (n : Nat) (xq : XQ) (Q : VK), SR X.K aS O A0 H0 σ H s n → LX X.K E aS A0 H0 xq →
  m xq s n (fun d n' => ∀ v H', KpS aS H H' → StA X.K aS H' n' → R X.K aS H' (AV aS A0 O σ) d v → Q v H') → t σ H Q
abbrev VE := VX Rep
abbrev VB := VX RepB
/-- .. a new object -/
def VF (X : Cx) (E : XK) (O : List Nat) (e : Expr) (m : EM D) : Prop := Mn m ∧ ∃ t, PE X e t ∧ ∀ (aS : Addr) (A0 : A0T) (H0 : Hp) (σ : L2.St) (H : Hp) (s : Ev) (n : Nat) (xq : XQ) (Q : VK), SR X.K aS O A0 H0 σ H s n → LX X.K E aS A0 H0 xq →
  m xq s n (fun d n' => ∀ a H', H a = none → KpS aS H H' → StA X.K aS H' n' → Own X.K aS H' (fun b => AV aS A0 O σ b ∨ b = a) a d → Q (.ref a) H') → t σ H Q
/-- a test -/
def VT (X : Cx) (E : XK) (O : List Nat) (e : Expr) (m : EM Bool) : Prop := Mn m ∧ ∃ t, PT X e t ∧ ∀ (aS : Addr) (A0 : A0T) (H0 : Hp) (σ : L2.St) (H : Hp) (s : Ev) (n : Nat) (xq : XQ) (Q : Bool → Hp → Prop), SR X.K aS O A0 H0 σ H s n → LX X.K E aS A0 H0 xq →
  m xq s n (fun b n' => ∀ H', KpS aS H H' → StA X.K aS H' n' → Q b H') → t σ H Q
/-- arguments -/
def RL (R : RK) (K : PySem.W.Frag) (aS : Addr) (H : Hp) (A : AS) : List D → List V → Prop
  | [], vs => vs = []
  | d :: ds, vs => ∃ v vr, vs = v :: vr ∧ R K aS H A d v ∧ RL R K aS H A ds vr
def VA (R : RK) (X : Cx) (E : XK) (O : List Nat) (es : List Expr) (m : EM (List D)) : Prop := Mn m ∧ ∃ t, PA X es t ∧ ∀ (aS : Addr) (A0 : A0T) (H0 : Hp) (σ : L2.St) (H : Hp) (s : Ev) (n : Nat) (xq : XQ) (Q : List V → Hp → Prop), SR X.K aS O A0 H0 σ H s n → LX X.K E aS A0 H0 xq →
  m xq s n (fun d n' => ∀ v H', KpS aS H H' → StA X.K aS H' n' → RL R X.K aS H' (AV aS A0 O σ) d v → Q v H') → t σ H Q
/-- statements -/
structure DE where
  nx : Ev → Nat → Prop
  rt : D → Nat → Prop
  bk : Ev → Nat → Prop := fun _ _ => False
  ct : Ev → Nat → Prop := fun _ _ => False
abbrev SM := XQ → DE → Ev → Nat → Prop
structure LK (K : PySem.W.Frag) (aS : Addr) (O OL : List Nat) (A0 : A0T) (H0 : Hp) (de : DE) (De : Ends) : Prop where
  nx : ∀ σ H s n, SR K aS O A0 H0 σ H s n → de.nx s n → De.nx σ H
  rt : ∀ v H d n, KpS aS H0 H → StA K aS H n → Rep K aS H (AV aS A0 [] []) d v → de.rt d n → De.rt v H
  bk : ∀ σ H s n, SR K aS OL A0 H0 σ H s n → de.bk s n → De.bk σ H
  ct : ∀ σ H s n, SR K aS OL A0 H0 σ H s n → de.ct s n → De.ct σ H
def VS (X : Cx) (E : XK) (O O' OL : List Nat) (st : Stmt) (m : SM) : Prop := ∃ t, PS X st t ∧ ∀ (aS : Addr) (A0 : A0T) (H0 : Hp) (σ : L2.St) (H : Hp) (s : Ev) (n : Nat) (xq : XQ) (de : DE) (De : Ends), SR X.K aS O A0 H0 σ H s n → LX X.K E aS A0 H0 xq →
  LK X.K aS O' OL A0 H0 de De → m xq de s n → t De σ H
def VSs (X : Cx) (E : XK) (O O' OL : List Nat) (st : List Stmt) (m : SM) : Prop := ∃ t, PSs X st t ∧ ∀ (aS : Addr) (A0 : A0T) (H0 : Hp) (σ : L2.St) (H : Hp) (s : Ev) (n : Nat) (xq : XQ) (de : DE) (De : Ends), SR X.K aS O A0 H0 σ H s n → LX X.K E aS A0 H0 xq →
  LK X.K aS O' OL A0 H0 de De → m xq de s n → t De σ H
end DL
namespace DL
open PySem PySem.Spec PyProof.Rows L2
variable [TabC]
section
variable {K : PySem.W.Frag} {aS : Addr} {H H' H'' H0 : Hp} {A A' : AS} {A0 : A0T} {O : List Nat} {σ : L2.St} {s : Ev} {n n' : Nat} {R : RK}
theorem StA.kp (k : Gr H H') (h : StA K aS H n) : StA K aS H' n := by
  obtain ⟨a0, cs, i, g, m, d, e, h1, ⟨o, h2⟩, h3, h4, h5, h6, h7, h8, h9⟩ := h
  exact ⟨a0, cs, i, g, m, d, k.1 _ _ e, h1, ⟨o, k.1 _ _ h2⟩, h3, h4, h5, h6, h7, h8, h9.1.ext k.1, fun b ps z => h9.2 b ps (k.2 b ps z)⟩
theorem StA.upd {p : Addr} {o : HO} (hp : H p = none) (h : StA K aS H n) (ho : ∀ ps, o ≠ .tbl ps := by intro _ z; cases z) : StA K aS (upd H p o) n := h.kp (Gr.upd hp ho)
theorem Rep.b (hA : A aS) {d : D} {v : V} (r : Rep K aS H A d v) : RepB K aS H A d v := by
  cases d with
  | lst ds => rw [Rep] at r; obtain ⟨a, xs, e, n, q⟩ := r; exact ⟨a, xs, e, fun z => n (z ▸ hA), q⟩
  | dic ds => rw [Rep] at r; obtain ⟨a, xs, e, n, q⟩ := r; exact ⟨a, xs, e, fun z => n (z ▸ hA), q⟩
  | dmx ds => rw [Rep] at r; obtain ⟨a, xs, e, n, q⟩ := r; exact ⟨a, xs, e, fun z => n (z ▸ hA), q⟩
  | obj C ds => rw [Rep] at r; obtain ⟨a, dx, xs, e, n, q⟩ := r; exact ⟨a, dx, xs, e, fun z => n (z ▸ hA), q⟩
  | _ => exact r
theorem RepB.kp (k : KpS aS H H') (hs : StA K aS H n) (hA : A aS) {d : D} {v : V} (r : RepB K aS H A d v) : RepB K aS H' A d v := by
  cases d with
  | lst ds => obtain ⟨a, xs, e, n, q, r⟩ := r; exact ⟨a, xs, e, n, k _ _ q n, r.kp k hs hA⟩
  | dic ds => obtain ⟨a, xs, e, n, q, r⟩ := r; exact ⟨a, xs, e, n, Rd.kp k n q, r.kp k hs hA⟩
  | dmx ds => obtain ⟨a, xs, e, n, q, r⟩ := r; exact ⟨a, xs, e, n, RdM.kp k n q, r.kp k hs hA⟩
  | obj C ds => obtain ⟨a, dx, xs, e, n, q, r⟩ := r; exact ⟨a, dx, xs, e, n, k _ _ q n, r.kp k hs hA⟩
  | non => exact Rep.kp k hs hA (d := .non) r
  | bl b => exact Rep.kp k hs hA (d := .bl b) r
  | int b => exact Rep.kp k hs hA (d := .int b) r
  | str b => exact Rep.kp k hs hA (d := .str b) r
  | raw b => exact Rep.kp k hs hA (d := .raw b) r
  | st => exact Rep.kp k hs hA (d := .st) r
  | tup b => exact Rep.kp k hs hA (d := .tup b) r
  | exc C b => exact Rep.kp k hs hA (d := .exc C b) r
/-- a relation that stays behind an expression -/
def Stb (R : RK) : Prop := ∀ (K : PySem.W.Frag) (aS : Addr) (H H' : Hp) (A : AS) (n : Nat) (d : D) (v : V), KpS aS H H' → StA K aS H n → A aS → R K aS H A d v → R K aS H' A d v
theorem stbE : Stb Rep := fun _ _ _ _ _ _ _ _ k hs hA r => r.kp k hs hA
theorem stbB : Stb RepB := fun _ _ _ _ _ _ _ _ k hs hA r => r.kp k hs hA
theorem RL.repL : ∀ {ds : List D} {vs : List V}, RL Rep K aS H A ds vs → RepL K aS H A ds vs
  | [], _, h => by rw [RepL]; exact h
  | d :: ds, vs, h => by
    obtain ⟨v, vr, e, r, q⟩ := h
    rw [RepL]
    exact ⟨v, vr, e, r, RL.repL q⟩
theorem RepL.rl : ∀ {ds : List D} {vs : List V}, RepL K aS H A ds vs → RL Rep K aS H A ds vs
  | [], _, h => by rw [RepL] at h; exact h
  | d :: ds, vs, h => by
    rw [RepL] at h
    obtain ⟨v, vr, e, r, q⟩ := h
    exact ⟨v, vr, e, r, RepL.rl q⟩
theorem RepL.length : ∀ {ds : List D} {vs : List V}, RepL K aS H A ds vs → vs.length = ds.length
  | [], _, h => by rw [RepL] at h; rw [h]; rfl
  | d :: ds, vs, h => by
    rw [RepL] at h
    obtain ⟨v, vr, e, r, q⟩ := h
    rw [e, List.length_cons, List.length_cons, RepL.length q]
theorem RepL.nil : RepL K aS H A [] [] := by rw [RepL]
theorem RepL.cons {d : D} {v : V} {ds : List D} {vs : List V} (r : Rep K aS H A d v) (q : RepL K aS H A ds vs) : RepL K aS H A (d :: ds) (v :: vs) := by rw [RepL]; exact ⟨v, vs, rfl, r, q⟩
theorem RepL.app : ∀ {ds es : List D} {vs ws : List V}, RepL K aS H A ds vs → RepL K aS H A es ws → RepL K aS H A (ds ++ es) (vs ++ ws)
  | [], _, _, _, h, q => by rw [RepL] at h; rw [h]; exact q
  | d :: ds, es, vs, ws, h, q => by
    rw [RepL] at h
    obtain ⟨v, vr, e, r, q'⟩ := h
    rw [e]
    exact RepL.cons r (RepL.app q' q)
theorem RepL.get : ∀ {ds : List D} {vs : List V} {i : Nat} {d : D}, RepL K aS H A ds vs → ds[i]? = some d → ∃ v, vs[i]? = some v ∧ Rep K aS H A d v
  | [], _, _, _, _, e => by simp at e
  | d :: ds, vs, 0, d', h, e => by
    rw [RepL] at h
    obtain ⟨v, vr, e1, r, q⟩ := h
    simp at e
    subst e
    exact ⟨v, by rw [e1]; rfl, r⟩
  | d :: ds, vs, i + 1, d', h, e => by
    rw [RepL] at h
    obtain ⟨v, vr, e1, r, q⟩ := h
    obtain ⟨w, e2, r2⟩ := RepL.get (i := i) q (by simpa using e)
    exact ⟨w, by rw [e1]; simpa using e2, r2⟩
theorem RepL.get' : ∀ {ds : List D} {vs : List V} {i : Nat} {v : V}, RepL K aS H A ds vs → vs[i]? = some v → ∃ d, ds[i]? = some d ∧ Rep K aS H A d v
  | [], _, _, _, h, e => by rw [RepL] at h; rw [h] at e; simp at e
  | d :: ds, vs, 0, d', h, e => by
    rw [RepL] at h
    obtain ⟨v, vr, e1, r, q⟩ := h
    rw [e1] at e
    simp at e
    subst e
    exact ⟨d, rfl, r⟩
  | d :: ds, vs, i + 1, d', h, e => by
    rw [RepL] at h
    obtain ⟨v, vr, e1, r, q⟩ := h
    rw [e1] at e
    obtain ⟨w, e2, r2⟩ := RepL.get' (i := i) q (by simpa using e)
    exact ⟨w, by simpa using e2, r2⟩
theorem RepL.take : ∀ {ds : List D} {vs : List V} (i : Nat), RepL K aS H A ds vs → RepL K aS H A (ds.take i) (vs.take i)
  | [], _, _, h => by rw [RepL] at h; rw [h]; simp; exact RepL.nil
  | d :: ds, vs, 0, h => by simp; exact RepL.nil
  | d :: ds, vs, i + 1, h => by
    rw [RepL] at h
    obtain ⟨v, vr, e1, r, q⟩ := h
    rw [e1, List.take_succ_cons, List.take_succ_cons]
    exact RepL.cons r (RepL.take i q)
theorem RepL.drop : ∀ {ds : List D} {vs : List V} (i : Nat), RepL K aS H A ds vs → RepL K aS H A (ds.drop i) (vs.drop i)
  | [], _, _, h => by rw [RepL] at h; rw [h]; simp; exact RepL.nil
  | d :: ds, vs, 0, h => by simpa using h
  | d :: ds, vs, i + 1, h => by
    rw [RepL] at h
    obtain ⟨v, vr, e1, r, q⟩ := h
    rw [e1, List.drop_succ_cons, List.drop_succ_cons]
    exact RepL.drop i q
theorem sub_le (hle : ∀ a, A' a → A a) : Sub K H H A A' := ⟨fun a xs h q => ⟨fun z => h (hle a z), q⟩, fun a xs q => q, fun a ys h q => ⟨fun z => h (hle a z), q⟩, fun a ys h q => ⟨fun z => h (hle a z), q⟩, fun a C dx ys h q => ⟨fun z => h (hle a z), q⟩, fun a u _ h q => ⟨fun z => h (hle a z), q⟩⟩
/-- a new object at p -/
theorem sub_new {p : Addr} {o : HO} (hp : H p = none) : Sub K H (upd H p o) A (fun b => A b ∨ b = p) := by
  have ne : ∀ b u, H b = some u → b ≠ p := fun b u e => ne_of_none e hp
  have up : ∀ b u, H b = some u → upd H p o b = some u := fun b u e => by rw [upd_ne (ne b u e)]; exact e
  refine ⟨fun a xs h q => ⟨fun z => z.elim h (ne a _ q), up _ _ q⟩, fun a xs q => q.elim (fun q => .inl (up _ _ q)) .inr, fun a ys h q => ?_, fun a ys h q => ?_, fun a C dx ys h q => ⟨fun z => z.elim h (ne a _ q), up _ _ q⟩, fun a u _ h q => ⟨fun z => z.elim h (ne a _ q), up _ _ q⟩⟩
  all_goals
    rcases q with q | ⟨u, q⟩
    · exact ⟨fun z => z.elim h (ne a _ q), .inl (up _ _ q)⟩
    · exact ⟨fun z => z.elim h (ne a _ q), .inr ⟨u, up _ _ q⟩⟩
/-- a list just laid -/
theorem own_new {p : Addr} {ds : List D} {xs : List V} (hp : H p = none) (r : RepL K aS H A ds xs) : Own K aS (upd H p (.lst xs)) (fun b => A b ∨ b = p) p (.lst ds) :=
  ⟨xs, upd_same, RepL.mono (sub_new hp) _ _ r⟩
end
/-! ### the readings -/
def eVar (i : Nat) : EM D := fun _ s n Q => ∃ d, s[i]? = some (some d) ∧ Q d n
def eC (d : D) : EM D := fun _ _ n Q => Q d n
def eNil : EM (List D) := fun _ _ n Q => Q [] n
def eCons (m : EM D) (r : EM (List D)) : EM (List D) := fun xq s n Q => m xq s n fun d n1 => r xq s n1 fun ds n2 => Q (d :: ds) n2
def eTup (m : EM (List D)) : EM D := fun xq s n Q => m xq s n fun ds n1 => ds.length ≤ 1000 ∧ Q (.tup ds) n1
def eLst (m : EM (List D)) : EM D := fun xq s n Q => m xq s n fun ds n1 => ds.length ≤ 1000 ∧ Q (.lst ds) n1
section
variable {X : Cx} {E : XK} {O : List Nat} {e : Expr} {es : List Expr} {m : EM D} {ml : EM (List D)} {pos : Pos} {R R' : RK}
theorem VX.imp (h : VX R X E O e m) (hR : ∀ K aS H A d v, A aS → R K aS H A d v → R' K aS H A d v) : VX R' X E O e m := by
  obtain ⟨mn, t, pe, f⟩ := h
  exact ⟨mn, t, pe, fun aS A0 H0 σ H s n xq Q S L hm => f aS A0 H0 σ H s n xq Q S L (mn _ _ _ _ _ (fun d n' q v H' k st r => q v H' k st (hR _ _ _ _ _ _ AV.st r)) hm)⟩
theorem VE.b (h : VE X E O e m) : VB X E O e m := VX.imp h fun _ _ _ _ _ _ hA r => r.b hA
theorem Own.mono {K : PySem.W.Frag} {aS a : Addr} {H : Hp} {A A' : AS} {d : D} (hle : ∀ b, A' b → A b) (h : Own K aS H A a d) : Own K aS H A' a d := by
  cases d with
  | lst ds => obtain ⟨xs, e, q⟩ := h; exact ⟨xs, e, RepL.mono (sub_le hle) _ _ q⟩
  | dic ds => obtain ⟨xs, e, q⟩ := h; exact ⟨xs, e, RepK.mono (sub_le hle) _ _ q⟩
  | dmx ds => obtain ⟨xs, e, q⟩ := h; exact ⟨xs, e, RepP.mono (sub_le hle) _ _ q⟩
  | obj C ds => obtain ⟨dx, xs, e, q⟩ := h; exact ⟨dx, xs, e, RepF.mono (sub_le hle) _ _ q⟩
  | _ => exact h.elim
theorem Own.rep0 {K : PySem.W.Frag} {aS a : Addr} {H : Hp} {A : AS} {d : D} (h : Own K aS H A a d) (ha : ¬ A a) : Rep K aS H A d (.ref a) := by
  cases d with
  | lst ds => obtain ⟨xs, e, q⟩ := h; rw [Rep]; exact ⟨a, xs, rfl, ha, e, q⟩
  | dic ds => obtain ⟨xs, e, q⟩ := h; rw [Rep]; exact ⟨a, xs, rfl, ha, .inl e, q⟩
  | dmx ds => obtain ⟨xs, e, q⟩ := h; rw [Rep]; exact ⟨a, xs, rfl, ha, .inl e, q⟩
  | obj C ds => obtain ⟨dx, xs, e, q⟩ := h; rw [Rep]; exact ⟨a, dx, xs, rfl, ha, e, q⟩
  | _ => exact h.elim
theorem Own.rep {K : PySem.W.Frag} {aS a : Addr} {H : Hp} {A : AS} {d : D} (h : Own K aS H (fun b => A b ∨ b = a) a d) (ha : ¬ A a) : Rep K aS H A d (.ref a) := (h.mono fun _ => .inl).rep0 ha
/-- what is not tracked is not avoided, if what is avoided is tracked -/
theorem VF.ve (h : VF X E O e m) : VE X E O e m := by
  obtain ⟨mn, t, pe, f⟩ := h
  refine ⟨mn, t, pe, fun aS A0 H0 σ H s n xq Q S L hm => f aS A0 H0 σ H s n xq Q S L (mn _ _ _ _ _ (fun d n' q a H' ha k st o => q _ H' k st (o.rep (S.new ha))) hm)⟩
theorem ve_var {i : Nat} {x : Str} (hi : i ∉ O) (hN : X.N[i]? = some x) (hv : Vis X.env.scope x) (hd : (x == ("__debug__" : Str)) = false := by decide) (hcd : (x == ("__classdict__" : Str)) = false := by decide) : VE X E O (.Name x pos) (eVar i) := by
  refine ⟨fun xq s n Q Q' hq ⟨d, e, q⟩ => ⟨d, e, hq _ _ q⟩, _, pe_var hN hv hd hcd, fun aS A0 H0 σ H s n xq Q S L hm => ?_⟩
  obtain ⟨d, e, q⟩ := hm
  obtain ⟨v, ev, r⟩ := S.sh i d e hi
  exact ⟨v, ev, q v H KpS.refl S.st r⟩
theorem vb_var {i : Nat} {x : Str} (hi : i ∈ O) (hN : X.N[i]? = some x) (hv : Vis X.env.scope x) (hd : (x == ("__debug__" : Str)) = false := by decide) (hcd : (x == ("__classdict__" : Str)) = false := by decide) : VB X E O (.Name x pos) (eVar i) := by
  refine ⟨fun xq s n Q Q' hq ⟨d, e, q⟩ => ⟨d, e, hq _ _ q⟩, _, pe_var hN hv hd hcd, fun aS A0 H0 σ H s n xq Q S L hm => ?_⟩
  obtain ⟨d, e, q⟩ := hm
  obtain ⟨d', a, e1, e2, e3, e4, e5, e6⟩ := S.ow i hi
  rw [e] at e1
  cases e1
  refine ⟨_, e2, q _ H KpS.refl S.st ?_⟩
  cases d with
  | lst ds => obtain ⟨xs, e, q⟩ := e6; exact ⟨a, xs, rfl, e5, e, q⟩
  | dic ds => obtain ⟨xs, e, q⟩ := e6; exact ⟨a, xs, rfl, e5, .inl e, q⟩
  | dmx ds => obtain ⟨xs, e, q⟩ := e6; exact ⟨a, xs, rfl, e5, .inl e, q⟩
  | obj C ds => obtain ⟨dx, xs, e, q⟩ := e6; exact ⟨a, dx, xs, rfl, e5, e, q⟩
  | _ => exact e6.elim
end
end DL
namespace DL
open PySem PySem.Spec PyProof.Rows L2
variable [TabC]
structure Cn (K : PySem.W.Frag) (aS : Addr) (H : Hp) (A : AS) (n : Nat) : Prop where
  a : A aS
  dom : ∀ a, A a → ∃ u, H a = some u
  st : StA K aS H n
theorem SR.cn {K : PySem.W.Frag} {aS : Addr} {H H0 : Hp} {A0 : A0T} {O : List Nat} {σ : L2.St} {s : Ev} {n : Nat} (S : SR K aS O A0 H0 σ H s n) : Cn K aS H (AV aS A0 O σ) n :=
  ⟨AV.st, fun a h => by
    cases e : H a with
    | none => exact (S.new e h).elim
    | some u => exact ⟨u, rfl⟩, S.st⟩
theorem Cn.new {K : PySem.W.Frag} {aS p : Addr} {H : Hp} {A : AS} {n : Nat} (c : Cn K aS H A n) (h : H p = none) : ¬ A p := fun z => by
  obtain ⟨u, e⟩ := c.dom p z
  rw [h] at e; cases e
/-- a binary operation by data -/
def OpD (X : Cx) (g : Value → Value → Sem Value) (f : D → D → Option D) : Prop := ∃ r, OpR X g r ∧ ∀ (aS : Addr) (H : Hp) (A : AS) (n : Nat) (d1 d2 d : D) (v1 v2 : V) (Q : VK), Cn X.K aS H A n → RepB X.K aS H A d1 v1 → RepB X.K aS H A d2 v2 → f d1 d2 = some d →
  (∀ v H', KpS aS H H' → StA X.K aS H' n → Rep X.K aS H' A d v → Q v H') → r v1 v2 H Q
def eBin (f : D → D → Option D) (a b : EM D) : EM D := fun xq s n Q => a xq s n fun x n1 => b xq s n1 fun y n2 => ∃ d, f x y = some d ∧ Q d n2
def eBinT (f : D → D → Option D) (a b : EM D) : EM Bool := fun xq s n Q => a xq s n fun x n1 => b xq s n1 fun y n2 => ∃ k, f x y = some (.bl k) ∧ Q k n2
def eBlt (f : List D → Option D) (a : EM (List D)) : EM D := fun xq s n Q => a xq s n fun x n1 => ∃ d, f x = some d ∧ Q d n1
/-- a call by data -/
def CallD (X : Cx) (g : Value) (f : List D → Option D) : Prop := ∃ r, CallR X g r ∧ ∀ (aS : Addr) (H : Hp) (A : AS) (n : Nat) (ds : List D) (d : D) (vs : List V) (Q : VK), Cn X.K aS H A n → RL RepB X.K aS H A ds vs → f ds = some d →
  (∀ v H', KpS aS H H' → StA X.K aS H' n → Rep X.K aS H' A d v → Q v H') → r vs H Q
def CallF (X : Cx) (g : Value) (f : List D → Option D) : Prop := ∃ r, CallR X g r ∧ ∀ (aS : Addr) (H : Hp) (A : AS) (n : Nat) (ds : List D) (d : D) (vs : List V) (Q : VK), Cn X.K aS H A n → RL RepB X.K aS H A ds vs → f ds = some d →
  (∀ a H', H a = none → KpS aS H H' → StA X.K aS H' n → Own X.K aS H' (fun b => A b ∨ b = a) a d → Q (.ref a) H') → r vs H Q
section
variable {X : Cx} {E : XK} {O : List Nat} {a b e : Expr} {es : List Expr} {ma mb m : EM D} {ml : EM (List D)} {pos : Pos} {R R' : RK}
theorem mn_bin {f : D → D → Option D} (h1 : Mn ma) (h2 : Mn mb) : Mn (eBin f ma mb) := fun xq s n Q Q' hq h => h1 _ _ _ _ _ (fun d1 n1 h => h2 _ _ _ _ _ (fun d2 n2 ⟨d, e, q⟩ => ⟨d, e, hq _ _ q⟩) h) h
theorem mn_binT {f : D → D → Option D} (h1 : Mn ma) (h2 : Mn mb) : Mn (eBinT f ma mb) := fun xq s n Q Q' hq h => h1 _ _ _ _ _ (fun d1 n1 h => h2 _ _ _ _ _ (fun d2 n2 ⟨d, e, q⟩ => ⟨d, e, hq _ _ q⟩) h) h
theorem ve_bin {op : Operator} {f : D → D → Option D} (h : OpD X (binaryOp op) f) (ha : VB X E O a ma) (hb : VB X E O b mb) : VE X E O (.BinOp a op b pos) (eBin f ma mb) := by
  obtain ⟨mna, ta, pa, fa⟩ := ha
  obtain ⟨mnb, tb, pb, fb⟩ := hb
  obtain ⟨r, ho, hr⟩ := h
  refine ⟨mn_bin mna mnb, _, pe_op ho pa pb, fun aS A0 H0 σ H s n xq Q S L hm => ?_⟩
  refine fa aS A0 H0 σ H s n xq _ S L (mna _ _ _ _ _ (fun d1 n1 q v1 H1 k1 st1 r1 => ?_) hm)
  refine fb aS A0 H0 σ H1 s n1 xq _ (S.step k1 st1) L (mnb _ _ _ _ _ (fun d2 n2 q2 v2 H2 k2 st2 r2 => ?_) q)
  obtain ⟨d, e, q2⟩ := q2
  exact hr aS H2 _ n2 d1 d2 d v1 v2 Q (S.step (k1.trans k2) st2).cn (r1.kp k2 st1 AV.st) r2 e fun v H' k st r => q2 v H' ((k1.trans k2).trans k) st r
theorem ve_cmp {op : CmpOp} {f : D → D → Option D} (h : OpD X (compareOp op) f) (ha : VB X E O a ma) (hb : VB X E O b mb) (hm : behindInMarks op b = false) : VE X E O (.Compare a [op] [b] pos) (eBin f ma mb) := by
  obtain ⟨mna, ta, pa, fa⟩ := ha
  obtain ⟨mnb, tb, pb, fb⟩ := hb
  obtain ⟨r, ho, hr⟩ := h
  refine ⟨mn_bin mna mnb, _, pe_cmpR ho pa pb hm, fun aS A0 H0 σ H s n xq Q S L hm => ?_⟩
  refine fa aS A0 H0 σ H s n xq _ S L (mna _ _ _ _ _ (fun d1 n1 q v1 H1 k1 st1 r1 => ?_) hm)
  refine fb aS A0 H0 σ H1 s n1 xq _ (S.step k1 st1) L (mnb _ _ _ _ _ (fun d2 n2 q2 v2 H2 k2 st2 r2 => ?_) q)
  obtain ⟨d, e, q2⟩ := q2
  exact hr aS H2 _ n2 d1 d2 d v1 v2 Q (S.step (k1.trans k2) st2).cn (r1.kp k2 st1 AV.st) r2 e fun v H' k st r => q2 v H' ((k1.trans k2).trans k) st r
theorem vt_cmp {op : CmpOp} {f : D → D → Option D} (h : OpD X (compareOp op) f) (ha : VB X E O a ma) (hb : VB X E O b mb) (hm : behindInMarks op b = false) : VT X E O (.Compare a [op] [b] pos) (eBinT f ma mb) := by
  obtain ⟨mna, ta, pa, fa⟩ := ha
  obtain ⟨mnb, tb, pb, fb⟩ := hb
  obtain ⟨r, ho, hr⟩ := h
  refine ⟨mn_binT mna mnb, _, pt_cmpR ho pa pb hm, fun aS A0 H0 σ H s n xq Q S L hm => ?_⟩
  refine fa aS A0 H0 σ H s n xq _ S L (mna _ _ _ _ _ (fun d1 n1 q v1 H1 k1 st1 r1 => ?_) hm)
  refine fb aS A0 H0 σ H1 s n1 xq _ (S.step k1 st1) L (mnb _ _ _ _ _ (fun d2 n2 q2 v2 H2 k2 st2 r2 => ?_) q)
  obtain ⟨c, e, q2⟩ := q2
  refine hr aS H2 _ n2 d1 d2 _ v1 v2 _ (S.step (k1.trans k2) st2).cn (r1.kp k2 st1 AV.st) r2 e fun v H' k st r => ?_
  rw [Rep] at r
  exact ⟨c, r, q2 H' ((k1.trans k2).trans k) st⟩
theorem va_nil : VA R X E O [] eNil := ⟨fun xq s n Q Q' hq h => hq _ _ h, _, pa_nil, fun aS A0 H0 σ H s n xq Q S L hm => hm [] H KpS.refl S.st rfl⟩
theorem mn_cons {m : EM D} {r : EM (List D)} (h1 : Mn m) (h2 : Mn r) : Mn (eCons m r) := fun xq s n Q Q' hq h => h1 _ _ _ _ _ (fun d1 n1 h => h2 _ _ _ _ _ (fun d2 n2 q => hq _ _ q) h) h
theorem va_cons (hR : Stb R) (he : VX R X E O e m) (hr : VA R X E O es ml) (hs : starEach (e :: es) X.env = (false, eval e X.env) :: starEach es X.env := by rfl) : VA R X E O (e :: es) (eCons m ml) := by
  obtain ⟨mna, ta, pa, fa⟩ := he
  obtain ⟨mnb, tb, pb, fb⟩ := hr
  refine ⟨mn_cons mna mnb, _, pa_cons pa pb hs, fun aS A0 H0 σ H s n xq Q S L hm => ?_⟩
  refine fa aS A0 H0 σ H s n xq _ S L (mna _ _ _ _ _ (fun d1 n1 q v1 H1 k1 st1 r1 => ?_) hm)
  refine fb aS A0 H0 σ H1 s n1 xq _ (S.step k1 st1) L (mnb _ _ _ _ _ (fun d2 n2 q2 v2 H2 k2 st2 r2 => ?_) q)
  exact q2 _ H2 (k1.trans k2) st2 ⟨v1, v2, rfl, hR _ _ _ _ _ _ _ _ k2 st1 AV.st r1, r2⟩
theorem mn_blt {f : List D → Option D} (h : Mn ml) : Mn (eBlt f ml) := fun xq s n Q Q' hq w => h _ _ _ _ _ (fun ds n1 ⟨d, e, q⟩ => ⟨d, e, hq _ _ q⟩) w
theorem ve_callB {x : Str} {id : String} {p : Pos} {f : List D → Option D} (h : CallD X (.builtin id) f) (hg : Gl X x) (hm : X.mg x = none) (hv : bootBuiltins x = some (.builtin id)) (ha : VA RepB X E O (e :: es) ml) (hn : x ≠ "__name__" := by decide) (hdb : (x == ("__debug__" : Str)) = false := by decide)
    (hs : starEach (e :: es) X.env = (false, eval e X.env) :: starEach es X.env := by rfl) (hpl : (backTo pos (starEach es X.env)).any (·.1) = false := by rfl) : VE X E O (.Call (.Name x p) (e :: es) [] pos) (eBlt f ml) := by
  obtain ⟨mna, ta, pa, fa⟩ := ha
  obtain ⟨r, ho, hr⟩ := h
  refine ⟨mn_blt mna, _, pe_callB ho hg hm hv pa hn hdb hs hpl, fun aS A0 H0 σ H s n xq Q S L hm => ?_⟩
  refine fa aS A0 H0 σ H s n xq _ S L (mna _ _ _ _ _ (fun ds n1 q vs H1 k1 st1 r1 => ?_) hm)
  obtain ⟨d, e, q⟩ := q
  exact hr aS H1 _ n1 ds d vs Q (S.step k1 st1).cn r1 e fun v H' k st r => q v H' (k1.trans k) st r
theorem vf_callTy {x : Str} {id : String} {p : Pos} {f : List D → Option D} (h : CallF X (.type id) f) (hg : Gl X x) (hm : X.mg x = none) (hv : bootBuiltins x = some (.type id)) (ha : VA RepB X E O (e :: es) ml) (hn : x ≠ "__name__" := by decide) (hdb : (x == ("__debug__" : Str)) = false := by decide)
    (hs : starEach (e :: es) X.env = (false, eval e X.env) :: starEach es X.env := by rfl) (hpl : (backTo pos (starEach es X.env)).any (·.1) = false := by rfl) : VF X E O (.Call (.Name x p) (e :: es) [] pos) (eBlt f ml) := by
  obtain ⟨mna, ta, pa, fa⟩ := ha
  obtain ⟨r, ho, hr⟩ := h
  refine ⟨mn_blt mna, _, pe_callTy ho hg hm hv pa hn hdb hs hpl, fun aS A0 H0 σ H s n xq Q S L hm => ?_⟩
  refine fa aS A0 H0 σ H s n xq _ S L (mna _ _ _ _ _ (fun ds n1 q vs H1 k1 st1 r1 => ?_) hm)
  obtain ⟨d, e, q⟩ := q
  refine hr aS H1 _ n1 ds d vs Q (S.step k1 st1).cn r1 e fun a H' ha k st o => q a H' ?_ (k1.trans k) st o
  cases z : H a with
  | none => rfl
  | some u =>
    by_cases hz : a = aS
    · obtain ⟨xs, y⟩ := st1.lst
      rw [hz, y] at ha; cases ha
    · exact (KpS.gone k1 ha z hz).elim
/-! displays, constants -/
theorem ve_tup {x1} (h : VA Rep X E O es ml) : VE X E O (.Tuple es x1 pos) (eTup ml) := by
  obtain ⟨mn, t, pa, f⟩ := h
  refine ⟨fun xq s n Q Q' hq h => mn _ _ _ _ _ (fun _ _ ⟨z, q⟩ => ⟨z, hq _ _ q⟩) h, _, pe_tup pa, fun aS A0 H0 σ H s n xq Q S L hm => ?_⟩
  refine f aS A0 H0 σ H s n xq _ S L (mn _ _ _ _ _ (fun ds n1 q vs H1 k1 st1 r1 => ?_) hm)
  have hl := (RL.repL r1).length
  refine ⟨by rw [hl, sizeLine_eq]; omega, fun p hp => q.2 _ _ (k1.trans (KpS.upd hp)) (st1.upd hp) ?_⟩
  rw [Rep]
  exact ⟨p, vs, rfl, .inl upd_same, (RL.repL r1).kp (KpS.upd hp) st1 AV.st⟩
theorem vf_lst (h : VA Rep X E O es ml) : VF X E O (.List es pos) (eLst ml) := by
  obtain ⟨mn, t, pa, f⟩ := h
  refine ⟨fun xq s n Q Q' hq h => mn _ _ _ _ _ (fun _ _ ⟨z, q⟩ => ⟨z, hq _ _ q⟩) h, _, pe_lst pa, fun aS A0 H0 σ H s n xq Q S L hm => ?_⟩
  refine f aS A0 H0 σ H s n xq _ S L (mn _ _ _ _ _ (fun ds n1 q vs H1 k1 st1 r1 => ?_) hm)
  have hl := (RL.repL r1).length
  refine ⟨by rw [hl, sizeLine_eq]; omega, fun p hp => q.2 _ _ ?_ (k1.trans (KpS.upd hp)) (st1.upd hp) (own_new hp (RL.repL r1))⟩
  cases z : H p with
  | none => rfl
  | some u =>
    by_cases hz : p = aS
    · obtain ⟨xs, y⟩ := st1.lst
      rw [hz, y] at hp; cases hp
    · exact (KpS.gone k1 hp z hz).elim
theorem mn_c {d : D} : Mn (eC d) := fun _ _ _ _ _ hq h => hq _ _ h
theorem ve_int {i j pos} : VE X E O (.Constant (.int i) j pos) (eC (.int i)) := ⟨mn_c, _, pe_int, fun aS A0 H0 σ H s n xq Q S L hm => hm _ H KpS.refl S.st (by rw [Rep])⟩
theorem ve_bl {b j pos} : VE X E O (.Constant (.bool b) j pos) (eC (.bl b)) := ⟨mn_c, _, pe_bl, fun aS A0 H0 σ H s n xq Q S L hm => hm _ H KpS.refl S.st (by rw [Rep])⟩
theorem ve_non {j pos} : VE X E O (.Constant .none j pos) (eC .non) := ⟨mn_c, _, pe_non, fun aS A0 H0 σ H s n xq Q S L hm => hm _ H KpS.refl S.st (by rw [Rep])⟩
theorem ve_str {x j pos} : VE X E O (.Constant (.str x) j pos) (eC (.str x)) := ⟨mn_c, _, pe_str, fun aS A0 H0 σ H s n xq Q S L hm => hm _ H KpS.refl S.st (by rw [Rep])⟩
/-- a module's text or int -/
theorem ve_gstr {x z : Str} (hg : Gl X x) (hm : ∃ t, X.mg x = some (.str z t)) (hd : (x == ("__debug__" : Str)) = false := by decide) : VE X E O (.Name x pos) (eC (.str z)) := by
  obtain ⟨t, hm⟩ := hm
  exact ⟨mn_c, _, pe_glob (v := .str z) hg hm ⟨t, rfl⟩ hd, fun aS A0 H0 σ H s n xq Q S L hm => hm _ H KpS.refl S.st (by rw [Rep])⟩
theorem ve_gint {x : Str} {i : Int} (hg : Gl X x) (hm : ∃ t, X.mg x = some (.int i t)) (hd : (x == ("__debug__" : Str)) = false := by decide) : VE X E O (.Name x pos) (eC (.int i)) := by
  obtain ⟨t, hm⟩ := hm
  exact ⟨mn_c, _, pe_glob (v := .int i) hg hm ⟨t, rfl⟩ hd, fun aS A0 H0 σ H s n xq Q S L hm => hm _ H KpS.refl S.st (by rw [Rep])⟩
/-- a built-in class, a class of the program's as a value -/
theorem ve_bty {x : Str} {T : String} (hg : Gl X x) (hm : X.mg x = none) (hv : bootBuiltins x = some (.type T)) (hn : x ≠ "__name__" := by decide) (hd : (x == ("__debug__" : Str)) = false := by decide) : VE X E O (.Name x pos) (eC (.raw (.ty T))) :=
  ⟨mn_c, _, pe_bltn (v := .ty T) hg hm hv rfl hn hd, fun aS A0 H0 σ H s n xq Q S L hm => hm _ H KpS.refl S.st (by rw [Rep])⟩
/-! and, or, not, if -/
def eAnd (a b : EM D) : EM D := fun xq s n Q => a xq s n fun x n1 => ∃ c, x = .bl c ∧ if c = true then b xq s n1 Q else Q (.bl false) n1
def eOr (a b : EM D) : EM D := fun xq s n Q => a xq s n fun x n1 => ∃ c, x = .bl c ∧ if c = true then Q (.bl true) n1 else b xq s n1 Q
def tVal (a : EM D) : EM Bool := fun xq s n Q => a xq s n fun x n1 => ∃ c, x = .bl c ∧ Q c n1
def tAndD (a b : EM Bool) : EM Bool := fun xq s n Q => a xq s n fun c n1 => if c = true then b xq s n1 Q else Q false n1
def tOrD (a b : EM Bool) : EM Bool := fun xq s n Q => a xq s n fun c n1 => if c = true then Q true n1 else b xq s n1 Q
def tNotD (a : EM Bool) : EM Bool := fun xq s n Q => a xq s n fun c n1 => Q (!c) n1
/-- a chain of tests (and, or) -/
def VW (X : Cx) (E : XK) (O : List Nat) (e : Expr) (m : EM Bool) : Prop := Mn m ∧ ∃ t, PW X e t ∧ ∀ (aS : Addr) (A0 : A0T) (H0 : Hp) (σ : L2.St) (H : Hp) (s : Ev) (n : Nat) (xq : XQ) (Q : Bool → Hp → Prop), SR X.K aS O A0 H0 σ H s n → LX X.K E aS A0 H0 xq →
  m xq s n (fun b n' => ∀ H', KpS aS H H' → StA X.K aS H' n' → Q b H') → t σ H Q
variable {tA tB : EM Bool} {rest : List Expr}
theorem VW.t (h : VW X E O e tA) : VT X E O e tA := by
  obtain ⟨mn, t, pw, f⟩ := h
  exact ⟨mn, t, pw.pt, f⟩
theorem vw_and1 (ha : VT X E O a tA) : VW X E O (.BoolOp .And [a] pos) tA := by
  obtain ⟨mn, t, p, f⟩ := ha
  exact ⟨mn, t, pw_and1 p, f⟩
theorem vw_or1 (ha : VT X E O a tA) : VW X E O (.BoolOp .Or [a] pos) tA := by
  obtain ⟨mn, t, p, f⟩ := ha
  exact ⟨mn, t, pw_or1 p, f⟩
theorem vw_and (ha : VT X E O a tA) (hb : VW X E O (.BoolOp .And (b :: rest) pos) tB) : VW X E O (.BoolOp .And (a :: b :: rest) pos) (tAndD tA tB) := by
  obtain ⟨mna, ta, pa, fa⟩ := ha
  obtain ⟨mnb, tb, pb, fb⟩ := hb
  refine ⟨fun xq s n Q Q' hq h => mna _ _ _ _ _ (fun c n1 h => ?_) h, _, pw_and pa pb, fun aS A0 H0 σ H s n xq Q S L hm => ?_⟩
  · cases c with
    | true => exact mnb _ _ _ _ _ hq h
    | false => exact hq _ _ h
  · refine fa aS A0 H0 σ H s n xq _ S L (mna _ _ _ _ _ (fun c n1 q H1 k1 st1 => ?_) hm)
    cases c with
    | true => exact fb aS A0 H0 σ H1 s n1 xq _ (S.step k1 st1) L (mnb _ _ _ _ _ (fun c2 n2 q2 H2 k2 st2 => q2 H2 (k1.trans k2) st2) q)
    | false => exact q H1 k1 st1
theorem vw_or (ha : VT X E O a tA) (hb : VW X E O (.BoolOp .Or (b :: rest) pos) tB) : VW X E O (.BoolOp .Or (a :: b :: rest) pos) (tOrD tA tB) := by
  obtain ⟨mna, ta, pa, fa⟩ := ha
  obtain ⟨mnb, tb, pb, fb⟩ := hb
  refine ⟨fun xq s n Q Q' hq h => mna _ _ _ _ _ (fun c n1 h => ?_) h, _, pw_or pa pb, fun aS A0 H0 σ H s n xq Q S L hm => ?_⟩
  · cases c with
    | false => exact mnb _ _ _ _ _ hq h
    | true => exact hq _ _ h
  · refine fa aS A0 H0 σ H s n xq _ S L (mna _ _ _ _ _ (fun c n1 q H1 k1 st1 => ?_) hm)
    cases c with
    | false => exact fb aS A0 H0 σ H1 s n1 xq _ (S.step k1 st1) L (mnb _ _ _ _ _ (fun c2 n2 q2 H2 k2 st2 => q2 H2 (k1.trans k2) st2) q)
    | true => exact q H1 k1 st1
theorem vt_not (ha : VT X E O a tA) : VT X E O (.UnaryOp .Not a pos) (tNotD tA) := by
  obtain ⟨mn, t, p, f⟩ := ha
  exact ⟨fun xq s n Q Q' hq h => mn _ _ _ _ _ (fun c n1 h => hq _ _ h) h, _, pt_not p, fun aS A0 H0 σ H s n xq Q S L hm => f aS A0 H0 σ H s n xq _ S L hm⟩
theorem vt_val (h : VE X E O e m) (he : ∀ whole, isTrue e X.env whole = (do let v ← whole; standAt e.pos; holding [v] (truthy v)) := by intro _; rfl) : VT X E O e (tVal m) := by
  obtain ⟨mn, t, p, f⟩ := h
  refine ⟨fun xq s n Q Q' hq h => mn _ _ _ _ _ (fun _ _ ⟨c, e, q⟩ => ⟨c, e, hq _ _ q⟩) h, _, pt_val p he, fun aS A0 H0 σ H s n xq Q S L hm => ?_⟩
  refine f aS A0 H0 σ H s n xq _ S L (mn _ _ _ _ _ (fun d n1 q v H1 k1 st1 r1 => ?_) hm)
  obtain ⟨c, e, q⟩ := q
  subst e
  rw [Rep] at r1
  exact ⟨c, r1, q H1 k1 st1⟩
theorem ve_one {op} (h : VE X E O a m) : VE X E O (.BoolOp op [a] pos) m := by
  obtain ⟨mn, t, p, f⟩ := h
  exact ⟨mn, t, pe_one p, f⟩
theorem ve_and (ha : VE X E O a ma) (hb : VE X E O (.BoolOp .And (b :: rest) pos) mb) : VE X E O (.BoolOp .And (a :: b :: rest) pos) (eAnd ma mb) := by
  obtain ⟨mna, ta, pa, fa⟩ := ha
  obtain ⟨mnb, tb, pb, fb⟩ := hb
  refine ⟨fun xq s n Q Q' hq h => mna _ _ _ _ _ (fun d n1 h => by
    obtain ⟨c, e, h⟩ := h
    refine ⟨c, e, ?_⟩
    cases c with
    | true => exact mnb _ _ _ _ _ hq h
    | false => exact hq _ _ h) h, _, pe_and pa pb, fun aS A0 H0 σ H s n xq Q S L hm => ?_⟩
  refine fa aS A0 H0 σ H s n xq _ S L (mna _ _ _ _ _ (fun d n1 q v H1 k1 st1 r1 => ?_) hm)
  obtain ⟨c, e, q⟩ := q
  subst e
  rw [Rep] at r1
  refine ⟨c, r1, ?_⟩
  cases c with
  | true => exact fb aS A0 H0 σ H1 s n1 xq _ (S.step k1 st1) L (mnb _ _ _ _ _ (fun d2 n2 q2 v2 H2 k2 st2 r2 => q2 v2 H2 (k1.trans k2) st2 r2) q)
  | false => exact q _ H1 k1 st1 (by rw [Rep])
theorem ve_or (ha : VE X E O a ma) (hb : VE X E O (.BoolOp .Or (b :: rest) pos) mb) : VE X E O (.BoolOp .Or (a :: b :: rest) pos) (eOr ma mb) := by
  obtain ⟨mna, ta, pa, fa⟩ := ha
  obtain ⟨mnb, tb, pb, fb⟩ := hb
  refine ⟨fun xq s n Q Q' hq h => mna _ _ _ _ _ (fun d n1 h => by
    obtain ⟨c, e, h⟩ := h
    refine ⟨c, e, ?_⟩
    cases c with
    | false => exact mnb _ _ _ _ _ hq h
    | true => exact hq _ _ h) h, _, pe_or pa pb, fun aS A0 H0 σ H s n xq Q S L hm => ?_⟩
  refine fa aS A0 H0 σ H s n xq _ S L (mna _ _ _ _ _ (fun d n1 q v H1 k1 st1 r1 => ?_) hm)
  obtain ⟨c, e, q⟩ := q
  subst e
  rw [Rep] at r1
  refine ⟨c, r1, ?_⟩
  cases c with
  | false => exact fb aS A0 H0 σ H1 s n1 xq _ (S.step k1 st1) L (mnb _ _ _ _ _ (fun d2 n2 q2 v2 H2 k2 st2 r2 => q2 v2 H2 (k1.trans k2) st2 r2) q)
  | true => exact q _ H1 k1 st1 (by rw [Rep])
end
end DL
namespace DL
open PySem PySem.Spec PyProof.Rows L2
variable [TabC]
/-! ### sums -/
def LIM : Nat := 100000
def dAdd : D → D → Option D
  | .int i, .int j => some (.int (i + j))
  | .lst xs, .lst ys => if xs.length + ys.length ≤ LIM then some (.lst (xs ++ ys)) else none
  | .tup xs, .tup ys => if xs.length + ys.length ≤ LIM then some (.tup (xs ++ ys)) else none
  | .str x, .str y => if x.length + y.length ≤ LIM then some (.str (x ++ y)) else none
  | _, _ => none
section
variable {K : PySem.W.Frag} {aS : Addr} {H : Hp} {A : AS} {n : Nat} {d : D} {v : V}
theorem repB_int {i : Int} (h : RepB K aS H A (.int i) v) : v = .int i := by
  unfold RepB at h
  simp only [Rep] at h
  exact h
theorem repB_str {i : Str} (h : RepB K aS H A (.str i) v) : v = .str i := by
  unfold RepB at h
  simp only [Rep] at h
  exact h
theorem repB_bl {i : Bool} (h : RepB K aS H A (.bl i) v) : v = .bl i := by
  unfold RepB at h
  simp only [Rep] at h
  exact h
theorem repB_non (h : RepB K aS H A .non v) : v = .non := by
  unfold RepB at h
  simp only [Rep] at h
  exact h
theorem repB_raw {u : V} (h : RepB K aS H A (.raw u) v) : v = u := by
  unfold RepB at h
  simp only [Rep] at h
  exact h
theorem repB_tup {ds : List D} (h : RepB K aS H A (.tup ds) v) : ∃ a xs, v = .ref a ∧ TpA K H a xs ∧ RepL K aS H A ds xs := by
  unfold RepB at h
  simp only [Rep] at h
  exact h
theorem repB_lst {ds : List D} (h : RepB K aS H A (.lst ds) v) : ∃ a xs, v = .ref a ∧ a ≠ aS ∧ H a = some (.lst xs) ∧ RepL K aS H A ds xs := h
theorem repB_dic {ds : List (Key × D)} (h : RepB K aS H A (.dic ds) v) : ∃ a ys, v = .ref a ∧ a ≠ aS ∧ Rd H a (.dK ys) ∧ RepK K aS H A ds ys := h
theorem rep_int {i : Int} : Rep K aS H A (.int i) (.int i) := by rw [Rep]
theorem rep_str {i : Str} : Rep K aS H A (.str i) (.str i) := by rw [Rep]
theorem rep_bl {i : Bool} : Rep K aS H A (.bl i) (.bl i) := by rw [Rep]
theorem rep_non : Rep K aS H A .non .non := by rw [Rep]
theorem rep_tup {ds : List D} {a : Addr} {xs : List V} (h : TpA K H a xs) (r : RepL K aS H A ds xs) : Rep K aS H A (.tup ds) (.ref a) := by rw [Rep]; exact ⟨a, xs, rfl, h, r⟩
theorem lim_line {k : Nat} (h : k ≤ LIM) : k ≤ sizeLine := by unfold LIM at h; rw [sizeLine_eq]; omega
theorem RepL.kpu {ds : List D} {xs : List V} {p : Addr} {o : HO} (c : Cn K aS H A n) (hp : H p = none) (r : RepL K aS H A ds xs) : RepL K aS (upd H p o) A ds xs := r.kp (KpS.upd hp) c.st c.a
end
section
variable {X : Cx}
theorem od_add : OpD X (binaryOp .Add) dAdd := by
  refine ⟨_, OpR.or op_add (OpR.or op_cat (OpR.or op_catA op_add_str)), fun aS H A n d1 d2 d v1 v2 Q c r1 r2 e w => ?_⟩
  unfold dAdd at e
  split at e
  · cases e
    exact .inl ⟨_, _, repB_int r1, repB_int r2, w _ _ KpS.refl c.st rep_int⟩
  · split at e
    · rename_i xs ys hl
      cases e
      obtain ⟨a, us, e1, n1, h1, q1⟩ := repB_lst r1
      obtain ⟨b, ws, e2, n2, h2, q2⟩ := repB_lst r2
      refine .inr (.inl ⟨a, b, us, ws, e1, e2, h1, h2, by rw [q1.length, q2.length]; exact lim_line hl, fun p hp => w _ _ (KpS.upd hp) (c.st.upd hp) ((own_new hp (q1.app q2)).rep (c.new hp))⟩)
    · cases e
  · split at e
    · rename_i xs ys hl
      cases e
      obtain ⟨a, us, e1, h1, q1⟩ := repB_tup r1
      obtain ⟨b, ws, e2, h2, q2⟩ := repB_tup r2
      refine .inr (.inr (.inl ⟨a, b, us, ws, e1, e2, h1.sq, h2.sq, by rw [q1.length, q2.length]; exact lim_line hl, fun z => ?_, fun _ z => ?_, fun _ _ p hp => w _ _ (KpS.upd hp) (c.st.upd hp) (rep_tup (.inl upd_same) ((q1.app q2).kpu c hp))⟩))
      · have ez : xs = [] := List.length_eq_zero_iff.mp (by rw [← q1.length, z]; rfl)
        subst ez
        exact w _ _ KpS.refl c.st (rep_tup h2 q2)
      · have ez : ys = [] := List.length_eq_zero_iff.mp (by rw [← q2.length, z]; rfl)
        subst ez
        rw [List.append_nil] at w
        exact w _ _ KpS.refl c.st (rep_tup h1 q1)
    · cases e
  · split at e
    · rename_i xs ys hl
      cases e
      exact .inr (.inr (.inr ⟨_, _, repB_str r1, repB_str r2, lim_line hl, w _ _ KpS.refl c.st rep_str⟩))
    · cases e
  · cases e
/-! ### comparisons -/
def dCmp (f : Int → Int → Bool) (g : List Nat → List Nat → Bool) : D → D → Option D
  | .int i, .int j => some (.bl (f i j))
  | .str i, .str j => some (.bl (g i.cps.toList j.cps.toList))
  | _, _ => none
theorem od_cmp {op : CmpOp} {f : Int → Int → Bool} {g : List Nat → List Nat → Bool} (h1 : OpR X (compareOp op) (rI0 fun i j => .bl (f i j))) (h2 : OpR X (compareOp op) (fun x y H Q => ∃ i j, x = .str i ∧ y = .str j ∧ Q (.bl (g i.cps.toList j.cps.toList)) H)) : OpD X (compareOp op) (dCmp f g) := by
  refine ⟨_, OpR.or h1 h2, fun aS H A n d1 d2 d v1 v2 Q c r1 r2 e w => ?_⟩
  unfold dCmp at e
  split at e
  · cases e
    exact .inl ⟨_, _, repB_int r1, repB_int r2, w _ _ KpS.refl c.st rep_bl⟩
  · cases e
    exact .inr ⟨_, _, repB_str r1, repB_str r2, w _ _ KpS.refl c.st rep_bl⟩
  · cases e
def dLt : D → D → Option D := dCmp (fun i j => decide (i < j)) (fun x y => decide (x < y))
def dLe0 : D → D → Option D := dCmp (fun i j => decide (i ≤ j)) (fun x y => !decide (y < x))
theorem od_le0 : OpD X (compareOp .LtE) dLe0 := od_cmp op_le op_le_str
end
/-! ### == by data -/
mutual
def toPD : D → PyData
  | .non => .none
  | .bl b => .bool b
  | .int i => .int i
  | .str x => .str x
  | .lst xs => .list (toPDs xs)
  | .tup xs => .tuple (toPDs xs)
  | _ => .dict []
def toPDs : List D → List PyData
  | [] => []
  | d :: ds => toPD d :: toPDs ds
end
section
variable {K : PySem.W.Frag} {aS : Addr} {H : Hp} {A : AS}
mutual
theorem Rep.dp : ∀ (d : D) (v : V), (toPD d).canLay0 = true → Rep K aS H A d v → Dp K H v (toPD d)
  | .non, v, _, h => by
    simp only [Rep] at h
    subst h
    exact Dp.non
  | .bl b, v, _, h => by
    simp only [Rep] at h
    subst h
    exact Dp.bl b
  | .int i, v, _, h => by
    simp only [Rep] at h
    subst h
    exact Dp.int i
  | .str i, v, _, h => by
    simp only [Rep] at h
    subst h
    exact Dp.str i
  | .lst ds, v, c, h => by
    rw [Rep] at h
    obtain ⟨a, xs, e, n, q, r⟩ := h
    subst e
    rw [toPD] at c ⊢
    exact Dp.lst (SqL.of q) (RepL.dp ds xs (by simpa [PyData.canLay0] using c) r)
  | .tup ds, v, c, h => by
    rw [Rep] at h
    obtain ⟨a, xs, e, q, r⟩ := h
    subst e
    rw [toPD] at c ⊢
    exact Dp.tup q.sq (RepL.dp ds xs (by simpa [PyData.canLay0] using c) r)
  | .raw u, v, c, h => by simp [toPD, PyData.canLay0] at c
  | .st, v, c, h => by simp [toPD, PyData.canLay0] at c
  | .dic u, v, c, h => by simp [toPD, PyData.canLay0] at c
  | .dmx u, v, c, h => by simp [toPD, PyData.canLay0] at c
  | .obj C u, v, c, h => by simp [toPD, PyData.canLay0] at c
  | .exc C u, v, c, h => by simp [toPD, PyData.canLay0] at c
theorem RepL.dp : ∀ (ds : List D) (vs : List V), PyData.canLayAll0 (toPDs ds) = true → RepL K aS H A ds vs → DpAll K H vs (toPDs ds)
  | [], vs, _, h => by
    rw [RepL] at h
    subst h
    exact DpAll.nil
  | d :: ds, vs, c, h => by
    rw [RepL] at h
    obtain ⟨v, vr, e, r, q⟩ := h
    subst e
    have c' : (toPD d).canLay0 = true ∧ PyData.canLayAll0 (toPDs ds) = true := by simpa [toPDs, PyData.canLayAll0] using c
    rw [toPDs]
    exact DpAll.cons (Rep.dp d v c'.1 r) (RepL.dp ds vr c'.2 q)
end
theorem RepB.dp {d : D} {v : V} (c : (toPD d).canLay0 = true) (h : RepB K aS H A d v) : Dp K H v (toPD d) := by
  cases d with
  | lst ds =>
    obtain ⟨a, xs, e, n, q, r⟩ := h
    subst e
    rw [toPD] at c ⊢
    exact Dp.lst (SqL.of q) (RepL.dp ds xs (by simpa [PyData.canLay0] using c) r)
  | dic ds => simp [toPD, PyData.canLay0] at c
  | dmx ds => simp [toPD, PyData.canLay0] at c
  | obj C ds => simp [toPD, PyData.canLay0] at c
  | exc C ds => simp [toPD, PyData.canLay0] at c
  | non => exact Rep.dp (aS := aS) (A := A) .non _ c h
  | bl b => exact Rep.dp (aS := aS) (A := A) (.bl b) _ c h
  | int b => exact Rep.dp (aS := aS) (A := A) (.int b) _ c h
  | str b => exact Rep.dp (aS := aS) (A := A) (.str b) _ c h
  | raw b => exact Rep.dp (aS := aS) (A := A) (.raw b) _ c h
  | st => exact Rep.dp (aS := aS) (A := A) .st _ c h
  | tup b => exact Rep.dp (aS := aS) (A := A) (.tup b) _ c h
end
def okD (d : D) : Bool := SeqAt.shaped (toPD d)
theorem okD_lay {d : D} (h : okD d = true) : (toPD d).canLay0 = true := by
  unfold okD SeqAt.shaped at h
  exact (Bool.and_eq_true_iff.mp h).1
def pyEq (a b : D) : Bool := (toPD a).eqv (toPD b)
def dEq (a b : D) : Option D := if (okD a && okD b) = true then some (.bl (pyEq a b)) else none
def dNe (a b : D) : Option D := if (okD a && okD b) = true then some (.bl (!pyEq a b)) else none
section
variable {X : Cx}
/-! x <= y of alike data: lists and tuples place by place -/
def ordOk (a b : D) : Bool := okD a && okD b && PySem.W.alike (toPD a) (toPD b) && (match a with | .lst _ => true | .tup _ => true | _ => false)
def dLeD (a b : D) : Option D := if ordOk a b = true then some (.bl (!PySem.W.dataLt (toPD b) (toPD a))) else none
def rLeD (K : PySem.W.Frag) : R2 := fun x y H Q => ∃ d e, Dp K H x d ∧ Dp K H y e ∧ SeqAt.shaped d = true ∧ SeqAt.shaped e = true ∧ PySem.W.alike d e = true ∧ d ≠ .none ∧ Q (.bl (!PySem.W.dataLt e d)) H
theorem op_leD (hu : X.A.units + 64 < cLine) : OpR X (compareOp .LtE) (rLeD X.K) := fun pins s σ H x y v u Q I rx ry ⟨d, e, hd, he, sd, se, ha, hn, q⟩ => by
  obtain ⟨as, r1⟩ := Dp.reads I d x v hd rx
  obtain ⟨bs, r2⟩ := Dp.reads I e y u he ry
  have h1 : d.depth ≤ 64 := of_decide_eq_true (Bool.and_eq_true_iff.mp sd).2
  exact PySem.W.le_data r1 r2 ha hn (by have := Nat.min_le_left d.depth e.depth; omega) ⟨.bl _, H, I, rfl, q⟩
theorem od_leD (hu : X.A.units + 64 < cLine) : OpD X (compareOp .LtE) dLeD := by
  refine ⟨_, op_leD hu, fun aS H A n d1 d2 d v1 v2 Q c r1 r2 e w => ?_⟩
  unfold dLeD at e
  split at e
  · rename_i h
    cases e
    obtain ⟨h, h4⟩ := Bool.and_eq_true_iff.mp h
    obtain ⟨h, h3⟩ := Bool.and_eq_true_iff.mp h
    obtain ⟨h1, h2⟩ := Bool.and_eq_true_iff.mp h
    refine ⟨_, _, r1.dp (okD_lay h1), r2.dp (okD_lay h2), h1, h2, h3, ?_, w _ _ KpS.refl c.st rep_bl⟩
    cases d1 with
    | lst _ => exact fun z => nomatch z
    | tup _ => exact fun z => nomatch z
    | _ => cases h4
  · cases e
def dLe (a b : D) : Option D := (dLe0 a b).or (dLeD a b)
theorem od_le (hu : X.A.units + 64 < cLine) : OpD X (compareOp .LtE) dLe := by
  obtain ⟨R1, h1, k1⟩ := od_le0 (X := X)
  obtain ⟨R2, h2, k2⟩ := od_leD (X := X) hu
  refine ⟨_, OpR.or h1 h2, fun aS H A n d1 d2 d v1 v2 Q c r1 r2 e w => ?_⟩
  unfold dLe at e
  cases e0 : dLe0 d1 d2 with
  | some z =>
    rw [e0] at e
    cases e
    exact .inl (k1 aS H A n d1 d2 _ v1 v2 Q c r1 r2 e0 w)
  | none =>
    rw [e0] at e
    exact .inr (k2 aS H A n d1 d2 d v1 v2 Q c r1 r2 e w)
theorem od_eq (hu : X.A.units + 64 < cLine) : OpD X (compareOp .Eq) dEq := by
  refine ⟨_, op_eqD hu, fun aS H A n d1 d2 d v1 v2 Q c r1 r2 e w => ?_⟩
  unfold dEq at e
  split at e
  · rename_i h
    cases e
    obtain ⟨h1, h2⟩ := Bool.and_eq_true_iff.mp h
    exact ⟨_, _, r1.dp (okD_lay h1), r2.dp (okD_lay h2), h1, h2, w _ _ KpS.refl c.st rep_bl⟩
  · cases e
theorem od_ne (hu : X.A.units + 64 < cLine) : OpD X (compareOp .NotEq) dNe := by
  refine ⟨_, op_neD hu, fun aS H A n d1 d2 d v1 v2 Q c r1 r2 e w => ?_⟩
  unfold dNe at e
  split at e
  · rename_i h
    cases e
    obtain ⟨h1, h2⟩ := Bool.and_eq_true_iff.mp h
    exact ⟨_, _, r1.dp (okD_lay h1), r2.dp (okD_lay h2), h1, h2, w _ _ KpS.refl c.st rep_bl⟩
  · cases e
end
/-! ### in -/
def flatD : D → Bool
  | .non => true
  | .bl _ => true
  | .int _ => true
  | .str _ => true
  | _ => false
def keyD : D → Option Key
  | .int i => some (.inl i)
  | .str x => some (.inr x)
  | _ => none
def lookK (kvs : List (Key × D)) (k : Key) : Option D := (kvs.find? fun kv => decide (kv.1 = k)).map (·.2)
def dInB : D → D → Option Bool
  | x, .lst ys => if (okD x && okD (.lst ys)) = true then some (ys.any fun y => pyEq y x) else none
  | x, .tup ys => if (flatD x && ys.all flatD) = true then some (ys.any fun y => pyEq y x) else none
  | x, .dic kvs => (keyD x).map fun k => (lookK kvs k).isSome
  | .str c, .str z => match c.cps.toList with
    | [k] => some (decide (k ∈ z.cps.toList))
    | _ => none
  | _, _ => none
def dIn (x y : D) : Option D := (dInB x y).map .bl
def dNotIn (x y : D) : Option D := (dInB x y).map fun b => .bl (!b)
section
variable {K : PySem.W.Frag} {aS : Addr} {H : Hp} {A : AS}
theorem flat_rep : ∀ {d : D} {v : V}, flatD d = true → Rep K aS H A d v → flatV v = true ∧ ∀ (e : D) (u : V), flatD e = true → Rep K aS H A e u → eqV v u = pyEq d e := by
  intro d v h r
  cases d <;> simp only [flatD, Bool.false_eq_true] at h <;> simp only [Rep] at r <;> subst r <;> refine ⟨rfl, fun e u h2 r2 => ?_⟩ <;> cases e <;> simp only [flatD, Bool.false_eq_true] at h2 <;> simp only [Rep] at r2 <;> subst r2 <;> simp [eqV, pyEq, toPD, PyData.eqv]
theorem flat_all : ∀ {ds : List D} {vs : List V} {x : D} {v : V}, ds.all flatD = true → RepL K aS H A ds vs → flatD x = true → Rep K aS H A x v → vs.all flatV = true ∧ inV v vs = ds.any (fun y => pyEq y x)
  | [], vs, x, v, _, h, _, _ => by
    rw [RepL] at h
    subst h
    exact ⟨rfl, rfl⟩
  | d :: ds, vs, x, v, h, r, hx, rx => by
    rw [RepL] at r
    obtain ⟨w, vr, e, r, q⟩ := r
    subst e
    rw [List.all_cons] at h
    obtain ⟨h1, h2⟩ := Bool.and_eq_true_iff.mp h
    obtain ⟨f1, f2⟩ := flat_rep h1 r
    obtain ⟨i1, i2⟩ := flat_all h2 q hx rx
    refine ⟨by rw [List.all_cons, f1, i1]; rfl, ?_⟩
    unfold inV at i2 ⊢
    rw [List.any_cons, List.any_cons, i2, f2 x v hx rx]
theorem any_pds (x : D) : ∀ ys : List D, (toPDs ys).any (fun z => PyData.eqv z (toPD x)) = ys.any fun y => pyEq y x
  | [] => rfl
  | y :: ys => by rw [toPDs, List.any_cons, List.any_cons, any_pds x ys]; rfl
theorem RepK.val : ∀ {ds : List (Key × D)} {vs : List (Key × V)} (k : Key), RepK K aS H A ds vs → (lookK ds k = none ∧ valV vs k = none) ∨ ∃ d v, lookK ds k = some d ∧ valV vs k = some v ∧ Rep K aS H A d v
  | [], vs, k, h => by
    rw [RepK] at h
    subst h
    exact .inl ⟨rfl, rfl⟩
  | (k', d) :: ds, vs, k, h => by
    rw [RepK] at h
    obtain ⟨v, vr, e, r, q⟩ := h
    subst e
    unfold lookK valV
    rw [List.find?_cons, List.find?_cons]
    by_cases hk : k' = k
    · simp only [hk, decide_true]
      exact .inr ⟨d, v, rfl, rfl, r⟩
    · simp only [hk, decide_false]
      exact RepK.val k q
theorem key_rep {d : D} {v : V} {k : Key} (h : keyD d = some k) (r : RepB K aS H A d v) : v = kV k := by
  cases d <;> simp only [keyD] at h <;> cases h
  · exact repB_int r
  · exact repB_str r
end
section
variable {X : Cx}
theorem op_dIn (hu : X.A.units + 1 < cLine) : OpR X (compareOp .In) (fun x y H Q => ∃ a o, y = .ref a ∧ DGet H a x o ∧ Q (.bl o.isSome) H) :=
  fun _ _ _ H _ _ _ _ _ inv rx ry ⟨_, o, ey, g, q⟩ => by
    subst ey
    cases ry
    exact d_in hu inv g rx fun _ inv' => ⟨.bl o.isSome, H, inv', rfl, q⟩
theorem op_dNotIn (hu : X.A.units + 1 < cLine) : OpR X (compareOp .NotIn) (fun x y H Q => ∃ a o, y = .ref a ∧ DGet H a x o ∧ Q (.bl (!o.isSome)) H) :=
  fun _ _ _ H _ _ _ _ _ inv rx ry ⟨_, o, ey, g, q⟩ => by
    subst ey
    cases ry
    exact d_notIn hu inv g rx fun _ inv' => ⟨.bl (!o.isSome), H, inv', rfl, q⟩
theorem od_in (hu : X.A.units + 65 < cLine) : OpD X (compareOp .In) dIn := by
  refine ⟨_, OpR.or (op_inD hu) (OpR.or op_in_seq (OpR.or (op_dIn (by omega)) op_in_sign)), fun aS H A n d1 d2 d v1 v2 Q c r1 r2 e w => ?_⟩
  unfold dIn at e
  cases hb : dInB d1 d2 with
  | none => rw [hb] at e; cases e
  | some b =>
    rw [hb] at e
    cases e
    unfold dInB at hb
    split at hb
    · split at hb
      · rename_i x ys h
        cases hb
        obtain ⟨h1, h2⟩ := Bool.and_eq_true_iff.mp h
        have q2 := r2.dp (okD_lay h2)
        rw [toPD] at q2
        refine .inl ⟨_, _, r1.dp (okD_lay h1), q2, h1, h2, ?_⟩
        rw [any_pds]
        exact w _ _ KpS.refl c.st rep_bl
      · cases hb
    · split at hb
      · rename_i x ys h
        cases hb
        obtain ⟨h1, h2⟩ := Bool.and_eq_true_iff.mp h
        obtain ⟨a, xs, e2, h3, q2⟩ := repB_tup r2
        have r1' : Rep X.K aS H A d1 v1 := by cases d1 <;> first | exact r1 | (simp only [flatD, Bool.false_eq_true] at h1)
        obtain ⟨i1, i2⟩ := flat_all h2 q2 h1 r1'
        refine .inr (.inl ⟨a, xs, e2, .inr h3.sq, (flat_rep h1 r1').1, i1, ?_⟩)
        rw [if_neg (by decide), i2]
        exact w _ _ KpS.refl c.st rep_bl
      · cases hb
    · rename_i x kvs
      cases hk : keyD d1 with
      | none => rw [hk] at hb; cases hb
      | some k =>
        rw [hk] at hb
        cases hb
        obtain ⟨a, ys, e2, n2, h3, q2⟩ := repB_dic r2
        have e1 := key_rep hk r1
        refine .inr (.inr (.inl ⟨a, valV ys k, e2, .inl ⟨ys, k, h3, e1, rfl⟩, ?_⟩))
        rcases q2.val k with ⟨z1, z2⟩ | ⟨d, v, z1, z2, z3⟩
        · simp only [z1] at w
          rw [z2]
          exact w _ _ KpS.refl c.st rep_bl
        · simp only [z1] at w
          rw [z2]
          exact w _ _ KpS.refl c.st rep_bl
    · rename_i x z
      split at hb
      · rename_i k hk
        cases hb
        have ex : x = ⟨#[k]⟩ := by
          obtain ⟨cp⟩ := x
          have : cp.toList = [k] := hk
          rw [← Array.toArray_toList (xs := cp), this]
        rw [ex] at r1
        exact .inr (.inr (.inr ⟨k, z, repB_str r1, repB_str r2, w _ _ KpS.refl c.st rep_bl⟩))
      · cases hb
    · cases hb
theorem od_notIn (hu : X.A.units + 65 < cLine) : OpD X (compareOp .NotIn) dNotIn := by
  refine ⟨_, OpR.or (op_notInD hu) (OpR.or op_notIn_seq (OpR.or (op_dNotIn (by omega)) op_notIn_sign)), fun aS H A n d1 d2 d v1 v2 Q c r1 r2 e w => ?_⟩
  unfold dNotIn at e
  cases hb : dInB d1 d2 with
  | none => rw [hb] at e; cases e
  | some b =>
    rw [hb] at e
    cases e
    unfold dInB at hb
    split at hb
    · split at hb
      · rename_i x ys h
        cases hb
        obtain ⟨h1, h2⟩ := Bool.and_eq_true_iff.mp h
        have q2 := r2.dp (okD_lay h2)
        rw [toPD] at q2
        refine .inl ⟨_, _, r1.dp (okD_lay h1), q2, h1, h2, ?_⟩
        rw [any_pds]
        exact w _ _ KpS.refl c.st rep_bl
      · cases hb
    · split at hb
      · rename_i x ys h
        cases hb
        obtain ⟨h1, h2⟩ := Bool.and_eq_true_iff.mp h
        obtain ⟨a, xs, e2, h3, q2⟩ := repB_tup r2
        have r1' : Rep X.K aS H A d1 v1 := by cases d1 <;> first | exact r1 | (simp only [flatD, Bool.false_eq_true] at h1)
        obtain ⟨i1, i2⟩ := flat_all h2 q2 h1 r1'
        refine .inr (.inl ⟨a, xs, e2, .inr h3.sq, (flat_rep h1 r1').1, i1, ?_⟩)
        rw [if_pos rfl, i2]
        exact w _ _ KpS.refl c.st rep_bl
      · cases hb
    · rename_i x kvs
      cases hk : keyD d1 with
      | none => rw [hk] at hb; cases hb
      | some k =>
        rw [hk] at hb
        cases hb
        obtain ⟨a, ys, e2, n2, h3, q2⟩ := repB_dic r2
        have e1 := key_rep hk r1
        refine .inr (.inr (.inl ⟨a, valV ys k, e2, .inl ⟨ys, k, h3, e1, rfl⟩, ?_⟩))
        rcases q2.val k with ⟨z1, z2⟩ | ⟨d, v, z1, z2, z3⟩
        · simp only [z1] at w
          rw [z2]
          exact w _ _ KpS.refl c.st rep_bl
        · simp only [z1] at w
          rw [z2]
          exact w _ _ KpS.refl c.st rep_bl
    · rename_i x z
      split at hb
      · rename_i k hk
        cases hb
        have ex : x = ⟨#[k]⟩ := by
          obtain ⟨cp⟩ := x
          have : cp.toList = [k] := hk
          rw [← Array.toArray_toList (xs := cp), this]
        rw [ex] at r1
        exact .inr (.inr (.inr ⟨k, z, repB_str r1, repB_str r2, w _ _ KpS.refl c.st rep_bl⟩))
      · cases hb
    · cases hb
end
end DL
namespace DL
open PySem PySem.Spec PyProof.Rows L2
variable [TabC]
/-! ### subscripts -/
def dIdx : D → D → Option D
  | .lst xs, .int i => atI xs i
  | .tup xs, .int i => atI xs i
  | .str x, .int i => if x.length ≤ LIM then (atI x.cps.toList i).map fun c => .str ⟨#[c]⟩ else none
  | .dic kvs, k => (keyD k).bind (lookK kvs)
  | _, _ => none
theorem RepL.atI {K : PySem.W.Frag} {aS : Addr} {H : Hp} {A : AS} {ds : List D} {vs : List V} {i : Int} {d : D} (r : RepL K aS H A ds vs) (h : L2.atI ds i = some d) : ∃ v, L2.atI vs i = some v ∧ Rep K aS H A d v := by
  unfold L2.atI at h ⊢
  rw [r.length]
  cases e : ixN ds.length i with
  | none => rw [e] at h; cases h
  | some j =>
    rw [e] at h
    exact r.get h
section
variable {X : Cx} {E : XK} {O : List Nat} {a b e : Expr} {ma mb m : EM D} {pos : Pos}
/-- a dict by a key, read whatever its lock -/
theorem ix_dict (hu : X.A.units + 1 < cLine) : IxR X (fun x y H Q => ∃ a v, x = .ref a ∧ DGet H a y (some v) ∧ Q v H) :=
  fun _ _ _ _ _ H _ _ _ _ _ I rx ry ⟨_, v, ex, g, q⟩ hs => by
    subst ex
    cases rx
    exact tail_any (dict_typeIs I g) PySem.F.slot_dict_getitem.lookup (d_getItem hu I g ry fun _ _ I' r' => ⟨v, H, I', r', q⟩) hs
theorem ve_sub (hu : X.A.units + 1 < cLine) (ha : VB X E O a ma) (hb : VB X E O b mb) (hp : PlainIx b) : VE X E O (.Subscript a b pos) (eBin dIdx ma mb) := by
  obtain ⟨mna, ta, pa, fa⟩ := ha
  obtain ⟨mnb, tb, pb, fb⟩ := hb
  refine ⟨mn_bin mna mnb, _, pe_ix (IxR.or ix_list (IxR.or ix_tup (IxR.or ix_str (ix_dict hu)))) pa pb hp, fun aS A0 H0 σ H s n xq Q S L hm => ?_⟩
  refine fa aS A0 H0 σ H s n xq _ S L (mna _ _ _ _ _ (fun d1 n1 q v1 H1 k1 st1 r0 => ?_) hm)
  refine fb aS A0 H0 σ H1 s n1 xq _ (S.step k1 st1) L (mnb _ _ _ _ _ (fun d2 n2 q2 v2 H2 k2 st2 r2 => ?_) q)
  obtain ⟨d, e, q3⟩ := q2
  have r1 := r0.kp k2 st1 AV.st
  clear r0
  have w := fun v r => q3 v H2 (k1.trans k2) st2 r
  unfold dIdx at e
  split at e
  · obtain ⟨p, xs, e1, _, h1, rl⟩ := repB_lst r1
    obtain ⟨v, e2, r⟩ := rl.atI e
    exact .inl ⟨p, xs, _, v, e1, repB_int r2, SqL.of h1, e2, w v r⟩
  · obtain ⟨p, xs, e1, h1, rl⟩ := repB_tup r1
    obtain ⟨v, e2, r⟩ := rl.atI e
    exact .inr (.inl ⟨p, xs, _, v, e1, repB_int r2, h1.sq, e2, w v r⟩)
  · split at e
    · rename_i x i hl
      cases ec : L2.atI x.cps.toList i with
      | none => rw [ec] at e; cases e
      | some c =>
        rw [ec] at e
        cases e
        exact .inr (.inr (.inl ⟨x, i, c, repB_str r1, repB_int r2, lim_line hl, ec, w _ rep_str⟩))
    · cases e
  · cases ek : keyD d2 with
    | none => rw [ek] at e; cases e
    | some k =>
      rw [ek] at e
      obtain ⟨p, ys, e1, _, h1, rk⟩ := repB_dic r1
      rcases rk.val k with ⟨z1, z2⟩ | ⟨d', v, z1, z2, z3⟩
      · have e : lookK _ k = some d := e
        rw [z1] at e; cases e
      · have e : lookK _ k = some d := e
        rw [z1] at e
        cases e
        exact .inr (.inr (.inr ⟨p, v, e1, .inl ⟨ys, k, h1, key_rep ek r2, z2.symm⟩, w v z3⟩))
  · cases e
/-! ### slices -/
def cutL {α : Type} (xs : List α) (lo hi : Option Int) : List α := (xs.drop (HT.sIx xs.length 0 lo)).take (HT.sIx xs.length xs.length hi - HT.sIx xs.length 0 lo)
def dSl : D → Option Int → Option Int → Option D
  | .lst xs, lo, hi => some (.lst (cutL xs lo hi))
  | .tup xs, lo, hi => some (.tup (cutL xs lo hi))
  | .str x, lo, hi => if x.length ≤ LIM then some (.str (cutS x lo hi)) else none
  | _, _, _ => none
theorem RepL.cut {K : PySem.W.Frag} {aS : Addr} {H : Hp} {A : AS} {ds : List D} {vs : List V} {lo hi : Option Int} (r : RepL K aS H A ds vs) : RepL K aS H A (cutL ds lo hi) (cutV vs lo hi) := by
  unfold cutL cutV
  rw [r.length]
  exact (r.drop _).take _
def VO (X : Cx) (E : XK) (O : List Nat) (e : Option Expr) (m : EM (Option Int)) : Prop := Mn m ∧ ∃ t, PO X e t ∧ ∀ (aS : Addr) (A0 : A0T) (H0 : Hp) (σ : L2.St) (H : Hp) (s : Ev) (n : Nat) (xq : XQ) (Q : Option Int → Hp → Prop), SR X.K aS O A0 H0 σ H s n → LX X.K E aS A0 H0 xq →
  m xq s n (fun b n' => ∀ H', KpS aS H H' → StA X.K aS H' n' → Q b H') → t σ H Q
def oNone : EM (Option Int) := fun _ _ n Q => Q none n
def oSome (m : EM D) : EM (Option Int) := fun xq s n Q => m xq s n fun d n1 => ∃ i, d = .int i ∧ Q (some i) n1
theorem vo_none : VO X E O none oNone := ⟨fun _ _ _ _ _ hq h => hq _ _ h, _, po_none, fun aS A0 H0 σ H s n xq Q S L hm => hm H KpS.refl S.st⟩
theorem vo_some (h : VB X E O e m) : VO X E O (some e) (oSome m) := by
  obtain ⟨mn, t, p, f⟩ := h
  refine ⟨fun xq s n Q Q' hq h => mn _ _ _ _ _ (fun _ _ ⟨i, e, q⟩ => ⟨i, e, hq _ _ q⟩) h, _, po_some p, fun aS A0 H0 σ H s n xq Q S L hm => ?_⟩
  refine f aS A0 H0 σ H s n xq _ S L (mn _ _ _ _ _ (fun d n1 q v H1 k1 st1 r1 => ?_) hm)
  obtain ⟨i, e, q⟩ := q
  subst e
  exact ⟨i, repB_int r1, q H1 k1 st1⟩
def eSl (m : EM D) (lo hi : EM (Option Int)) : EM D := fun xq s n Q => m xq s n fun d n1 => lo xq s n1 fun l n2 => hi xq s n2 fun h n3 => ∃ r, dSl d l h = some r ∧ Q r n3
theorem ve_slice {lo hi : Option Expr} {ml mh : EM (Option Int)} {p2 : Pos} (ha : VB X E O a ma) (hl : VO X E O lo ml) (hh : VO X E O hi mh) : VE X E O (.Subscript a (.Slice lo hi none p2) pos) (eSl ma ml mh) := by
  obtain ⟨mna, ta, pa, fa⟩ := ha
  obtain ⟨mnl, tl, pl, fl⟩ := hl
  obtain ⟨mnh, th, ph, fh⟩ := hh
  refine ⟨fun xq s n Q Q' hq h => mna _ _ _ _ _ (fun _ _ h => mnl _ _ _ _ _ (fun _ _ h => mnh _ _ _ _ _ (fun _ _ ⟨r, e, q⟩ => ⟨r, e, hq _ _ q⟩) h) h) h, _,
    pe_slice (SlR.or sl_list (SlR.or sl_tupA sl_str)) pa pl ph, fun aS A0 H0 σ H s n xq Q S L hm => ?_⟩
  refine fa aS A0 H0 σ H s n xq _ S L (mna _ _ _ _ _ (fun d1 n1 q0 v1 H1 k1 st1 r0 => ?_) hm)
  refine fl aS A0 H0 σ H1 s n1 xq _ (S.step k1 st1) L (mnl _ _ _ _ _ (fun d2 n2 q2 H2 k2 st2 => ?_) q0)
  refine fh aS A0 H0 σ H2 s n2 xq _ ((S.step k1 st1).step k2 st2) L (mnh _ _ _ _ _ (fun d3 n3 q3 H3 k3 st3 => ?_) q2)
  obtain ⟨r, e, q⟩ := q3
  have r1 := (r0.kp k2 st1 AV.st).kp k3 st2 AV.st
  clear r0
  have kk := (k1.trans k2).trans k3
  have c := (S.step kk st3).cn
  unfold dSl at e
  split at e
  · cases e
    obtain ⟨p, xs, e1, _, h1, rl⟩ := repB_lst r1
    exact .inl ⟨p, xs, e1, SqL.of h1, fun q' hq' => q _ _ (kk.trans (KpS.upd hq')) (st3.upd hq') ((own_new hq' rl.cut).rep (c.new hq'))⟩
  · cases e
    rename_i ds
    obtain ⟨p, xs, e1, h1, rl⟩ := repB_tup r1
    refine .inr (.inl ⟨p, xs, e1, h1.sq, fun hw => q _ _ kk st3 (rep_tup h1 ?_), fun _ q' hq' => q _ _ (kk.trans (KpS.upd hq')) (st3.upd hq') (rep_tup (.inl upd_same) (rl.cut.kpu c hq'))⟩)
    have e2 : cutL ds d2 d3 = ds := by
      unfold cutL
      rw [← rl.length, hw.1, hw.2, List.drop_zero, Nat.sub_zero, rl.length, List.take_length]
    rw [e2]
    exact rl
  · split at e
    · rename_i x hl
      cases e
      exact .inr (.inr ⟨x, repB_str r1, lim_line hl, q _ _ kk st3 rep_str⟩)
    · cases e
  · cases e
end
/-! ### calls of built-ins -/
def dLen : List D → Option D
  | [.lst xs] => some (.int xs.length)
  | [.tup xs] => some (.int xs.length)
  | [.str x] => if x.length ≤ LIM then some (.int x.length) else none
  | [.dic kvs] => some (.int kvs.length)
  | _ => none
theorem rl_one {R : RK} {K : PySem.W.Frag} {aS : Addr} {H : Hp} {A : AS} {d : D} {vs : List V} (h : RL R K aS H A [d] vs) : ∃ v, vs = [v] ∧ R K aS H A d v := by
  obtain ⟨v, vr, e, r, q⟩ := h
  have q : vr = [] := q
  exact ⟨v, by rw [e, q], r⟩
theorem rl_two {R : RK} {K : PySem.W.Frag} {aS : Addr} {H : Hp} {A : AS} {d1 d2 : D} {vs : List V} (h : RL R K aS H A [d1, d2] vs) : ∃ v w, vs = [v, w] ∧ R K aS H A d1 v ∧ R K aS H A d2 w := by
  obtain ⟨v, vr, e, r, q⟩ := h
  obtain ⟨w, e2, r2⟩ := rl_one q
  exact ⟨v, w, by rw [e, e2], r, r2⟩
theorem RepK.length {K : PySem.W.Frag} {aS : Addr} {H : Hp} {A : AS} : ∀ {ds : List (Key × D)} {vs : List (Key × V)}, RepK K aS H A ds vs → vs.length = ds.length
  | [], _, h => by rw [RepK] at h; rw [h]; rfl
  | (k, d) :: ds, vs, h => by
    rw [RepK] at h
    obtain ⟨v, vr, e, r, q⟩ := h
    rw [e, List.length_cons, List.length_cons, RepK.length q]
theorem RepK.keys {K : PySem.W.Frag} {aS : Addr} {H : Hp} {A : AS} : ∀ {ds : List (Key × D)} {vs : List (Key × V)}, RepK K aS H A ds vs → vs.map (·.1) = ds.map (·.1)
  | [], _, h => by rw [RepK] at h; rw [h]; rfl
  | (k, d) :: ds, vs, h => by
    rw [RepK] at h
    obtain ⟨v, vr, e, r, q⟩ := h
    rw [e, List.map_cons, List.map_cons, RepK.keys q]
def kD : Key → D
  | .inl i => .int i
  | .inr x => .str x
theorem rep_kD {K : PySem.W.Frag} {aS : Addr} {H : Hp} {A : AS} (k : Key) : Rep K aS H A (kD k) (kV k) := by
  cases k with
  | inl i => exact rep_int
  | inr x => exact rep_str
theorem rep_keys {K : PySem.W.Frag} {aS : Addr} {H : Hp} {A : AS} : ∀ ks : List Key, RepL K aS H A (ks.map kD) (ks.map kV)
  | [] => RepL.nil
  | k :: ks => RepL.cons (rep_kD k) (rep_keys ks)
section
variable {X : Cx}
/-- len of a dict, locked or not -/
theorem call_lenR : CallR X (.builtin "len") (fun xs H Q => ∃ a kvs, xs = [V.ref a] ∧ Rd H a (.dK kvs) ∧ Q (.int kvs.length) H) :=
  fun _ _ _ H _ _ _ inv rel ⟨_, kvs, ex, rd, q⟩ => by
    subst ex
    obtain ⟨u, eu, ru⟩ := vals1 rel
    subst eu
    cases ru
    exact d_len inv rd fun t _ inv' => ⟨.int kvs.length, H, inv', ⟨t, rfl⟩, q⟩
theorem cd_len : CallD X (.builtin "len") dLen := by
  refine ⟨_, CallR.or call_len call_lenR, fun aS H A n ds d vs Q c rl e w => ?_⟩
  unfold dLen at e
  split at e
  · cases e
    obtain ⟨v, e1, r⟩ := rl_one rl
    obtain ⟨p, xs, e2, _, h1, q⟩ := repB_lst r
    subst e1 e2
    refine .inl ⟨_, xs.length, rfl, .inl ⟨xs, SqL.of h1, rfl⟩, ?_⟩
    rw [q.length]
    exact w _ _ KpS.refl c.st rep_int
  · cases e
    obtain ⟨v, e1, r⟩ := rl_one rl
    obtain ⟨p, xs, e2, h1, q⟩ := repB_tup r
    subst e1 e2
    refine .inl ⟨_, xs.length, rfl, .inr ⟨xs, h1.sq, rfl⟩, ?_⟩
    rw [q.length]
    exact w _ _ KpS.refl c.st rep_int
  · split at e
    · rename_i x hl
      cases e
      obtain ⟨v, e1, r⟩ := rl_one rl
      have e2 := repB_str r
      subst e1 e2
      exact .inl ⟨_, _, rfl, ⟨lim_line hl, rfl⟩, w _ _ KpS.refl c.st rep_int⟩
    · cases e
  · cases e
    obtain ⟨v, e1, r⟩ := rl_one rl
    obtain ⟨p, xs, e2, _, h1, q⟩ := repB_dic r
    subst e1 e2
    refine .inr ⟨_, xs, rfl, h1, ?_⟩
    rw [q.length]
    exact w _ _ KpS.refl c.st rep_int
  · cases e
/-- what a walk over the keys has gathered are the keys -/
theorem keys_got {kvs : List (Key × V)} {vs : List (Key × Value)} {acc : Array Value} (rel : KV kvs vs) (len : acc.size = vs.length) (each : ∀ (j : Nat) (w : Value), acc[j]? = some w → ∃ (k : Key) (y : Value), vs[j]? = some (k, y) ∧ keyIs k w = true) : Vals ((kvs.map (·.1)).map kV) acc.toList :=
  vals_of_at (by simpa [len] using KV.length rel) fun j x w ex ew => by
    obtain ⟨k, y, at_, is⟩ := each j w (by rwa [Array.getElem?_toList] at ew)
    have key : ((kvs.map (·.1)).map kV)[j]? = some (kV k) := by rw [KV.keys rel, List.getElem?_map, List.getElem?_map, at_]; rfl
    cases key.symm.trans ex
    exact keyIs_rel is
/-- list(d), whether d is locked or not -/
theorem call_listR (hc : X.calm = true) : CallR X (.type "list") (fun xs H Q => ∃ p kvs, xs = [.ref p] ∧ Rd H p (.dK kvs) ∧ ∀ q, H q = none → Q (.ref q) (upd H q (.lst ((kvs.map (·.1)).map kV)))) :=
  fun pins s σ H _ _ Q inv rel ⟨p, kvs, ex, rd, q⟩ => by
    subst ex
    obtain ⟨u, eu, ru⟩ := vals1 rel
    subst eu
    cases ru
    obtain ⟨few, notSys, vs, kv, dict⟩ := dk_rd inv.hok rd
    obtain ⟨ep, laid⟩ := dict.dictAt
    refine PySem.W.kdl_call (PySem.W.kdl_dict (knd := mixKind X.prog X.w) (kvs := vs) (ep := ep) notSys) (inv.ok.hd hc) laid (KV.length kv ▸ few) fun h' tk acc c' same made got => ?_
    have new : ObjOk X.prog X.w (upd H s.heap.objs.size (.lst ((kvs.map (·.1)).map kV))) h' s.heap.objs.size (.lst ((kvs.map (·.1)).map kV)) := ⟨by simpa using few, _, c', keys_got kv got.1 got.2, by simpa using made⟩
    exact ⟨.ref s.heap.objs.size, _, inv.laid same (Nat.le_refl _) new, rfl, q _ (inv.hok.fresh (Nat.le_refl _))⟩
def dList : List D → Option D
  | [.lst xs] => some (.lst xs)
  | [.tup xs] => some (.lst xs)
  | [.dic kvs] => some (.lst ((kvs.map (·.1)).map kD))
  | _ => none
theorem cf_list (hc : X.calm = true) : CallF X (.type "list") dList := by
  refine ⟨_, CallR.or call_list_of (call_listR hc), fun aS H A n ds d vs Q c rl e w => ?_⟩
  unfold dList at e
  split at e
  · cases e
    obtain ⟨v, e1, r⟩ := rl_one rl
    obtain ⟨p, xs, e2, _, h1, q⟩ := repB_lst r
    subst e1 e2
    exact .inl ⟨p, xs, rfl, .inl (SqL.of h1), fun l hl => w _ _ hl (KpS.upd hl) (c.st.upd hl) (own_new hl q)⟩
  · cases e
    obtain ⟨v, e1, r⟩ := rl_one rl
    obtain ⟨p, xs, e2, h1, q⟩ := repB_tup r
    subst e1 e2
    exact .inl ⟨p, xs, rfl, .inr h1.sq, fun l hl => w _ _ hl (KpS.upd hl) (c.st.upd hl) (own_new hl q)⟩
  · cases e
    obtain ⟨v, e1, r⟩ := rl_one rl
    obtain ⟨p, xs, e2, _, h1, q⟩ := repB_dic r
    subst e1 e2
    refine .inr ⟨p, xs, rfl, h1, fun l hl => w _ _ hl (KpS.upd hl) (c.st.upd hl) (own_new hl ?_)⟩
    rw [q.keys]
    exact rep_keys _
  · cases e
def dTuple : List D → Option D
  | [.lst xs] => some (.tup xs)
  | [.tup xs] => some (.tup xs)
  | _ => none
/-! all, any, sum -/
def boolsD : List D → Option (List Bool)
  | [] => some []
  | .bl b :: ds => (boolsD ds).map (b :: ·)
  | _ => none
theorem bools_rep {K : PySem.W.Frag} {aS : Addr} {H : Hp} {A : AS} : ∀ {ds : List D} {bs : List Bool} {vs : List V}, boolsD ds = some bs → RepL K aS H A ds vs → vs = bs.map V.bl
  | [], bs, vs, h, r => by
    rw [RepL] at r
    cases h
    exact r
  | d :: ds, bs, vs, h, r => by
    rw [RepL] at r
    obtain ⟨v, vr, e, r1, q⟩ := r
    cases d with
    | bl b =>
      rw [boolsD] at h
      cases hb : boolsD ds with
      | none => rw [hb] at h; cases h
      | some cs =>
        rw [hb] at h
        cases h
        simp only [Rep] at r1
        rw [e, r1, bools_rep hb q]
        rfl
    | _ => cases h
def dAll : List D → Option D
  | [.lst xs] => (boolsD xs).map fun bs => .bl (bs.all id)
  | _ => none
theorem cd_all (hc : X.calm = true) : CallD X (.builtin "all") dAll := by
  refine ⟨_, cr_all hc, fun aS H A n ds d vs Q c rl e w => ?_⟩
  unfold dAll at e
  split at e
  · rename_i xs
    cases hb : boolsD xs with
    | none => rw [hb] at e; cases e
    | some bs =>
      rw [hb] at e
      cases e
      obtain ⟨v, e1, r⟩ := rl_one rl
      obtain ⟨p, us, e2, _, h1, q⟩ := repB_lst r
      subst e1 e2
      rw [bools_rep hb q] at h1
      exact ⟨p, bs, rfl, SqL.of h1, w _ _ KpS.refl c.st rep_bl⟩
  · cases e
/-! isinstance -/
def tyD : D → Option String
  | .non => some "NoneType"
  | .bl _ => some "bool"
  | .int _ => some "int"
  | .str _ => some "str"
  | .lst _ => some "list"
  | .tup _ => some "tuple"
  | .dic _ => some "dict"
  | _ => none
def isTy (a b : String) : Bool := a == b || (a == "bool" && b == "int")
def isB (b : String) : Bool := b == "int" || b == "bool" || b == "str" || b == "list" || b == "tuple" || b == "dict"
theorem kit_tab : ∀ a ∈ ["NoneType", "bool", "int", "str", "list", "tuple", "dict"], ∀ b ∈ ["int", "bool", "str", "list", "tuple", "dict"], kitB a b = some (isTy a b) := by decide +kernel
theorem kit_of_ty {K : PySem.W.Frag} {a b : String} (ha : a ∈ ["NoneType", "bool", "int", "str", "list", "tuple", "dict"]) (hb : isB b = true) : PySem.W.kitOne K (.type a) (.type b) = some (isTy a b) := by
  refine kit_ty (kit_tab a ha b ?_)
  simpa [isB, Bool.or_eq_true, or_assoc] using hb
theorem tyX_of {K : PySem.W.Frag} {aS : Addr} {H : Hp} {A : AS} {d : D} {v : V} {a : String} (h : tyD d = some a) (r : RepB K aS H A d v) : TyX K H v (.type a) ∧ a ∈ ["NoneType", "bool", "int", "str", "list", "tuple", "dict"] := by
  cases d <;> simp only [tyD, Option.some.injEq, reduceCtorEq] at h <;> subst h
  · rw [repB_non r]; exact ⟨.base .non, by simp⟩
  · rw [repB_bl r]; exact ⟨.base (.bl _), by simp⟩
  · rw [repB_int r]; exact ⟨.base (.int _), by simp⟩
  · rw [repB_str r]; exact ⟨.base (.str _), by simp⟩
  · obtain ⟨p, xs, e, h1, q⟩ := repB_tup r
    subst e
    refine ⟨?_, by simp⟩
    rcases h1 with h1 | ⟨o, its, n, hk, hc, _⟩
    · exact .base (.tup h1)
    · exact .kTuple hk hc
  · obtain ⟨p, xs, e, _, h1, q⟩ := repB_lst r
    subst e
    exact ⟨.base (.lst h1), by simp⟩
  · obtain ⟨p, xs, e, _, h1, q⟩ := repB_dic r
    subst e
    refine ⟨?_, by simp⟩
    rcases h1 with h1 | ⟨o, h1⟩
    · exact .base (.dK h1)
    · exact .fDict h1
def tysD : List D → Option (List String)
  | [] => some []
  | .raw (.ty T) :: ds => if isB T = true then (tysD ds).map (T :: ·) else none
  | _ => none
theorem tys_rep {K : PySem.W.Frag} {aS : Addr} {H : Hp} {A : AS} {a : String} (ha : a ∈ ["NoneType", "bool", "int", "str", "list", "tuple", "dict"]) : ∀ {ds : List D} {bs : List String} {vs : List V}, tysD ds = some bs → RepL K aS H A ds vs →
    Paired ClsV vs (bs.map Value.type) ∧ PySem.W.kitAny K (.type a) (bs.map Value.type) = some (bs.any (isTy a))
  | [], bs, vs, h, r => by
    rw [RepL] at r
    subst r
    cases h
    exact ⟨.nil, rfl⟩
  | d :: ds, bs, vs, h, r => by
    rw [RepL] at r
    obtain ⟨v, vr, e, r1, q⟩ := r
    subst e
    unfold tysD at h
    split at h
    · rename_i hz; cases hz
    · rename_i T ds' heq
      cases heq
      split at h
      · rename_i hT
        cases hb : tysD ds with
        | none => rw [hb] at h; cases h
        | some cs =>
          rw [hb] at h
          cases h
          obtain ⟨i1, i2⟩ := tys_rep ha hb q
          simp only [Rep] at r1
          subst r1
          refine ⟨.cons (.ty T) i1, ?_⟩
          rw [List.map_cons, List.any_cons]
          refine kitAny_cons (kit_of_ty ha hT) (fun z => ?_) (fun z => ?_)
          · rw [z, Bool.false_or]; exact i2
          · rw [z]; rfl
      · cases h
    · cases h
def dIsi : List D → Option D
  | [x, .raw (.ty T)] => if isB T = true then (tyD x).map fun a => .bl (isTy a T) else none
  | [x, .tup ts] => match tyD x, tysD ts with
    | some a, some bs => some (.bl (bs.any (isTy a)))
    | _, _ => none
  | _ => none
theorem cd_isi : CallD X (.builtin "isinstance") dIsi := by
  refine ⟨_, CallR.or call_isi (CallR.or call_isiT call_isiK), fun aS H A n ds d vs Q c rl e w => ?_⟩
  unfold dIsi at e
  split at e
  · rename_i x T
    split at e
    · rename_i hT
      cases ht : tyD x with
      | none => rw [ht] at e; cases e
      | some a =>
        rw [ht] at e
        cases e
        obtain ⟨v, u, e1, r1, r2⟩ := rl_two rl
        have e2 := repB_raw r2
        subst e1 e2
        obtain ⟨t1, t2⟩ := tyX_of ht r1
        exact .inl ⟨v, .ty T, .type a, .type T, _, rfl, .ty T, t1, kit_of_ty t2 hT, w _ _ KpS.refl c.st rep_bl⟩
    · cases e
  · rename_i x ts
    split at e
    · rename_i a bs ht hts
      cases e
      obtain ⟨v, u, e1, r1, r2⟩ := rl_two rl
      obtain ⟨p, us, e2, h1, q⟩ := repB_tup r2
      subst e1 e2
      obtain ⟨t1, t2⟩ := tyX_of ht r1
      obtain ⟨i1, i2⟩ := tys_rep t2 hts q
      rcases h1 with h1 | ⟨⟨oc, od, odt, osl⟩, its, n, hk, hc, hdt, _, hv⟩
      · exact .inr (.inl ⟨v, p, us, .type a, bs.map Value.type, _, rfl, h1, i1, t1, i2, w _ _ KpS.refl c.st rep_bl⟩)
      · cases hc
        cases hdt
        have ez := ClsV.all i1 hv
        refine .inr (.inr ⟨v, p, od, bs.map Value.type, n, osl, .type a, _, rfl, ?_, t1, i2, w _ _ KpS.refl c.st rep_bl⟩)
        rw [hk, ← ez, Array.toArray_toList]
    · cases e
  · cases e
end
end DL
namespace DL
open PySem PySem.Spec PyProof.Rows L2
variable [TabC]
section
variable {K : PySem.W.Frag} {aS a : Addr} {H H' H'' H0 H1 : Hp} {A A' : AS} {A0 : A0T} {O O' : List Nat} {σ : L2.St} {s : Ev} {n n' i : Nat} {d : D} {v : V}
theorem set_other {α : Type} {l : List α} {i j : Nat} {x : α} (h : j ≠ i) : (l.set i x)[j]? = l[j]? := List.getElem?_set_ne (Ne.symm h)
theorem AV.set {A0 : AS} {x : Option V} (hi : i ∉ O) : AV aS A0 O (σ.set i x) = AV aS A0 O σ := by
  funext b
  unfold AV
  refine propext ⟨fun h => ?_, fun h => ?_⟩
  · rcases h with h | h | ⟨j, hj, e⟩
    · exact .inl h
    · exact .inr (.inl h)
    · rw [set_other (show j ≠ i from fun z => hi (z ▸ hj))] at e
      exact .inr (.inr ⟨j, hj, e⟩)
  · rcases h with h | h | ⟨j, hj, e⟩
    · exact .inl h
    · exact .inr (.inl h)
    · refine .inr (.inr ⟨j, hj, ?_⟩)
      rw [set_other (show j ≠ i from fun z => hi (z ▸ hj))]
      exact e
/-- a slot that owns nothing is stored -/
theorem SR.set (S : SR K aS O A0 H0 σ H s n) (hi : i ∉ O) (r : Rep K aS H (AV aS A0 O σ) d v) : SR K aS O A0 H0 (σ.set i (some v)) H (s.set i (some d)) n where
  len := by rw [List.length_set, List.length_set]; exact S.len
  sh := fun j d' e hj => by
    rw [AV.set hi]
    by_cases hji : j = i
    · subst hji
      have hl : j < s.length := by
        have := (List.getElem?_eq_some_iff.mp e).1
        rwa [List.length_set] at this
      rw [List.getElem?_set_self hl] at e
      cases e
      exact ⟨v, List.getElem?_set_self (by rw [S.len]; exact hl), r⟩
    · rw [set_other hji] at e
      rw [set_other hji]
      exact S.sh j d' e hj
  ow := fun j hj => by
    have hji : j ≠ i := fun z => hi (z ▸ hj)
    rw [AV.set hi, set_other hji, set_other hji]
    exact S.ow j hj
  ds := fun j k b hj hk e1 e2 => by
    rw [set_other (show j ≠ i from fun z => hi (z ▸ hj))] at e1
    rw [set_other (show k ≠ i from fun z => hi (z ▸ hk))] at e2
    exact S.ds j k b hj hk e1 e2
  fr := S.fr
  st := S.st
  av := S.av
  pn := fun h a e => by
    rw [set_other (show 0 ≠ i from fun z => hi (z ▸ h))]
    exact S.pn h a e
/-- slots give up what they own -/
theorem SR.rel (S : SR K aS O A0 H0 σ H s n) (h : ∀ j, j ∈ O' → j ∈ O) : SR K aS O' A0 H0 σ H s n := by
  have hle : ∀ b, AV aS A0 O' σ b → AV aS A0 O σ b := fun b z => by
    rcases z with z | z | ⟨j, hj, e⟩
    · exact .inl z
    · exact .inr (.inl z)
    · exact .inr (.inr ⟨j, h j hj, e⟩)
  refine ⟨S.len, fun j d' e hj => ?_, fun j hj => ?_, fun j k b hj hk => S.ds j k b (h j hj) (h k hk), S.fr, S.st, S.av, fun z => S.pn (h 0 z)⟩
  · by_cases ho : j ∈ O
    · obtain ⟨d'', b, e1, e2, e3, e4, e5, e6⟩ := S.ow j ho
      rw [e] at e1
      cases e1
      refine ⟨_, e2, (e6.mono hle).rep0 fun z => ?_⟩
      rcases z with z | z | ⟨k, hk, e⟩
      · exact e4 z
      · exact e5 z
      · exact hj (S.ds j k b ho (h k hk) e2 e ▸ hk)
    · obtain ⟨v, e1, r⟩ := S.sh j d' e ho
      exact ⟨v, e1, Rep.mono (sub_le hle) _ _ r⟩
  · obtain ⟨d'', b, e1, e2, e3, e4, e5, e6⟩ := S.ow j (h j hj)
    exact ⟨d'', b, e1, e2, e3, e4, e5, e6.mono hle⟩
/-- a new object is owned by a slot -/
theorem SR.own (S : SR K aS O A0 H0 σ H s n) (hi : i ∉ O) (hi0 : i ≠ 0) (hl : i < s.length) (ha : H a = none) (k : KpS aS H H') (t : StA K aS H' n') (o : Own K aS H' (fun b => AV aS A0 O σ b ∨ b = a) a d) : SR K aS (i :: O) A0 H0 (σ.set i (some (.ref a))) H' (s.set i (some d)) n' := by
  have hlσ : i < σ.length := by rw [S.len]; exact hl
  have eA : AV aS A0 (i :: O) (σ.set i (some (.ref a))) = fun b => AV aS A0 O σ b ∨ b = a := by
    funext b
    refine propext ⟨fun z => ?_, fun z => ?_⟩
    · rcases z with z | z | ⟨j, hj, e⟩
      · exact .inl (.inl z)
      · exact .inl (.inr (.inl z))
      · by_cases hji : j = i
        · subst hji
          rw [List.getElem?_set_self hlσ] at e
          cases e
          exact .inr rfl
        · rw [set_other hji] at e
          exact .inl (.inr (.inr ⟨j, (List.mem_cons.mp hj).resolve_left hji, e⟩))
    · rcases z with (z | z | ⟨j, hj, e⟩) | z
      · exact .inl z
      · exact .inr (.inl z)
      · refine .inr (.inr ⟨j, List.mem_cons_of_mem _ hj, ?_⟩)
        rw [set_other (show j ≠ i from fun z => hi (z ▸ hj))]
        exact e
      · refine .inr (.inr ⟨i, List.mem_cons_self, ?_⟩)
        rw [z]
        exact List.getElem?_set_self hlσ
  have hs := S.st.lst
  have sub : Sub K H H' (AV aS A0 O σ) (fun b => AV aS A0 O σ b ∨ b = a) := by
    obtain ⟨ys, hs⟩ := hs
    have ne : ∀ b, ¬ AV aS A0 O σ b → b ≠ aS := fun b h e => h (.inr (.inl e))
    refine ⟨fun b xs h q => ⟨fun z => z.elim h (ne_of_none q ha), k _ _ q (ne b h)⟩, fun b xs q => TpA.kp k hs q, fun b ys h q => ⟨fun z => z.elim h ?_, Rd.kp k (ne b h) q⟩, fun b ys h q => ⟨fun z => z.elim h ?_, RdM.kp k (ne b h) q⟩, fun b C dx ys h q => ⟨fun z => z.elim h (ne_of_none q ha), k _ _ q (ne b h)⟩, fun b u hu h q => ⟨fun z => z.elim h (ne_of_none q ha), k.xo hu q (ne b h)⟩⟩
    all_goals
      rcases q with q | ⟨_, q⟩
      · exact ne_of_none q ha
      · exact ne_of_none q ha
  have own_at : ∀ j, j ∈ O → ∃ d' b, s[j]? = some (some d') ∧ σ[j]? = some (some (.ref b)) ∧ H0 b = none ∧ ¬ A0 b ∧ b ≠ aS ∧ b ≠ a ∧ Own K aS H' (fun b => AV aS A0 O σ b ∨ b = a) b d' := fun j hj => by
    obtain ⟨d', b, e1, e2, e3, e4, e5, e6⟩ := S.ow j hj
    refine ⟨d', b, e1, e2, e3, e4, e5, fun z => S.new ha (.inr (.inr ⟨j, hj, z ▸ e2⟩)), ?_⟩
    cases d' with
    | lst ds => obtain ⟨xs, e, q⟩ := e6; exact ⟨xs, k _ _ e e5, RepL.mono sub _ _ q⟩
    | dic ds => obtain ⟨xs, e, q⟩ := e6; exact ⟨xs, k _ _ e e5, RepK.mono sub _ _ q⟩
    | dmx ds => obtain ⟨xs, e, q⟩ := e6; exact ⟨xs, k _ _ e e5, RepP.mono sub _ _ q⟩
    | obj C ds => obtain ⟨dx, xs, e, q⟩ := e6; exact ⟨dx, xs, k _ _ e e5, RepF.mono sub _ _ q⟩
    | _ => exact e6.elim
  refine ⟨by rw [List.length_set, List.length_set]; exact S.len, fun j d' e hj => ?_, fun j hj => ?_, fun j l b hj hk e1 e2 => ?_, S.fr.trans k, t, (S.step k t).av, fun z b e => by
    rw [set_other (Ne.symm hi0)]
    exact S.pn ((List.mem_cons.mp z).resolve_left (Ne.symm hi0)) b e⟩
  · rw [eA]
    have hji : j ≠ i := fun z => hj (z ▸ List.mem_cons_self)
    rw [set_other hji] at e ⊢
    obtain ⟨v, e1, r⟩ := S.sh j d' e (fun z => hj (List.mem_cons_of_mem _ z))
    exact ⟨v, e1, Rep.mono sub _ _ r⟩
  · rw [eA]
    by_cases hji : j = i
    · subst hji
      rw [List.getElem?_set_self hl, List.getElem?_set_self hlσ]
      refine ⟨d, a, rfl, rfl, ?_, fun z => S.new ha (.inl z), fun z => S.new ha (.inr (.inl z)), o⟩
      cases e : H0 a with
      | none => rfl
      | some u =>
        exact (KpS.gone S.fr ha e (fun z => S.new ha (.inr (.inl z)))).elim
    · rw [set_other hji, set_other hji]
      obtain ⟨d', b, e1, e2, e3, e4, e5, e6, e7⟩ := own_at j ((List.mem_cons.mp hj).resolve_left hji)
      exact ⟨d', b, e1, e2, e3, e4, e5, e7⟩
  · by_cases hji : j = i
    · by_cases hki : l = i
      · rw [hji, hki]
      · rw [hji, List.getElem?_set_self hlσ] at e1
        rw [set_other hki] at e2
        cases e1
        exact (S.new ha (.inr (.inr ⟨l, (List.mem_cons.mp hk).resolve_left hki, e2⟩))).elim
    · by_cases hki : l = i
      · rw [hki, List.getElem?_set_self hlσ] at e2
        rw [set_other hji] at e1
        cases e2
        exact (S.new ha (.inr (.inr ⟨j, (List.mem_cons.mp hj).resolve_left hji, e1⟩))).elim
      · rw [set_other hji] at e1
        rw [set_other hki] at e2
        exact S.ds j l b ((List.mem_cons.mp hj).resolve_left hji) ((List.mem_cons.mp hk).resolve_left hki) e1 e2
/-- what a slot owns is changed -/
theorem SR.mut {o o' : HO} (S : SR K aS O A0 H0 σ H s n) (hi : i ∈ O) (e : σ[i]? = some (some (.ref a))) (ho : H a = some o) (hk : ∀ xs, o ≠ .tup xs) (hf : ∀ ob u, o ≠ .frz ob u)
    (new : Own K aS (upd H a o') (AV aS A0 O σ) a d) : SR K aS O A0 H0 σ (upd H a o') (s.set i (some d)) n := by
  obtain ⟨d0, a', e1, e2, e3, e4, e5, e6⟩ := S.ow i hi
  rw [e] at e2
  cases e2
  have hl : i < s.length := (List.getElem?_eq_some_iff.mp e1).1
  have hA : AV aS A0 O σ a := .inr (.inr ⟨i, hi, e⟩)
  have up : ∀ b u, H b = some u → b ≠ a → upd H a o' b = some u := fun b u q z => by rw [upd_ne z]; exact q
  have sub : Sub K H (upd H a o') (AV aS A0 O σ) (AV aS A0 O σ) := by
    have ne : ∀ b, ¬ AV aS A0 O σ b → b ≠ a := fun b h z => h (z ▸ hA)
    refine ⟨fun b xs h q => ⟨h, up _ _ q (ne b h)⟩, fun b xs q => q.elim (fun q => .inl (up _ _ q fun z => ?_)) .inr, fun b ys h q => ⟨h, ?_⟩, fun b ys h q => ⟨h, ?_⟩, fun b C dx ys h q => ⟨h, up _ _ q (ne b h)⟩, fun b u _ h q => ⟨h, up _ _ q (ne b h)⟩⟩
    · rw [z, ho] at q
      cases q
      exact hk _ rfl
    all_goals
      rcases q with q | ⟨z, q⟩
      · exact .inl (up _ _ q (ne b h))
      · exact .inr ⟨z, up _ _ q (ne b h)⟩
  refine ⟨by rw [List.length_set]; exact S.len, fun j d' ej hj => ?_, fun j hj => ?_, S.ds, fun b u q z => (S.fr b u q z).trans fun v e' => .of (up _ _ e' (fun z => by rw [z, e3] at q; cases q)), ?_, fun b hb => ?_, S.pn⟩
  · have hji : j ≠ i := fun z => hj (z ▸ hi)
    rw [set_other hji] at ej
    obtain ⟨v, q1, r⟩ := S.sh j d' ej hj
    exact ⟨v, q1, Rep.mono sub _ _ r⟩
  · by_cases hji : j = i
    · subst hji
      rw [List.getElem?_set_self hl]
      exact ⟨d, a, rfl, e, e3, e4, e5, new⟩
    · rw [set_other hji]
      obtain ⟨d', b, q1, q2, q3, q4, q5, q6⟩ := S.ow j hj
      have hb : b ≠ a := fun z => hji (S.ds j i a hj hi (z ▸ q2) e)
      refine ⟨d', b, q1, q2, q3, q4, q5, ?_⟩
      cases d' with
      | lst ds => obtain ⟨xs, e, q⟩ := q6; exact ⟨xs, up _ _ e hb, RepL.mono sub _ _ q⟩
      | dic ds => obtain ⟨xs, e, q⟩ := q6; exact ⟨xs, up _ _ e hb, RepK.mono sub _ _ q⟩
      | dmx ds => obtain ⟨xs, e, q⟩ := q6; exact ⟨xs, up _ _ e hb, RepP.mono sub _ _ q⟩
      | obj C ds => obtain ⟨dx, xs, e, q⟩ := q6; exact ⟨dx, xs, up _ _ e hb, RepF.mono sub _ _ q⟩
      | _ => exact q6.elim
  · obtain ⟨a0, cs, i', g, m, d', z1, z2, ⟨ob, z3⟩, z4, z5, z6, z7, z8, z9, zt⟩ := S.st
    refine ⟨a0, cs, i', g, m, d', up _ _ z1 (Ne.symm e5), z2, ⟨ob, up _ _ z3 fun z => ?_⟩, z4, z5, z6, z7, z8, z9, tabs_poke zt ho (e6.plain ho).1 (e6.plain ho).2 (new.plain upd_same).1⟩
    rw [z, ho] at z3
    cases z3
    exact hf _ _ rfl
  · by_cases z : b = a
    · rw [z, upd_same]
      exact ⟨_, rfl⟩
    · obtain ⟨u, q⟩ := S.av b hb
      exact ⟨u, up _ _ q z⟩
/-- the heap without what slots own: what a loop's body starts from -/
noncomputable def bare (O : List Nat) (σ : L2.St) (H : Hp) : Hp := fun b => @ite _ (∃ i, i ∈ O ∧ σ[i]? = some (some (.ref b))) (Classical.propDecidable _) none (H b)
theorem bare_own {b : Addr} (h : ∃ i, i ∈ O ∧ σ[i]? = some (some (.ref b))) : bare O σ H b = none := by
  unfold bare
  rw [if_pos h]
theorem bare_not {b : Addr} (h : ¬ ∃ i, i ∈ O ∧ σ[i]? = some (some (.ref b))) : bare O σ H b = H b := by
  unfold bare
  rw [if_neg h]
theorem bare_some {b : Addr} {u : HO} (h : bare O σ H b = some u) : H b = some u := by
  by_cases z : ∃ i, i ∈ O ∧ σ[i]? = some (some (.ref b))
  · rw [bare_own z] at h; cases h
  · rw [bare_not z] at h; exact h
theorem SR.base (S : SR K aS O A0 H0 σ H s n) : SR K aS O A0 (bare O σ H) σ H s n :=
  ⟨S.len, S.sh, fun j hj => let ⟨d, b, e1, e2, e3, e4, e5, e6⟩ := S.ow j hj; ⟨d, b, e1, e2, bare_own ⟨j, hj, e2⟩, e4, e5, e6⟩, S.ds, fun b u q _ => .of (bare_some q), S.st, S.av, S.pn⟩
theorem SR.le (S : SR K aS O A0 H0 σ H s n) : KpS aS H0 (bare O σ H) := fun b u q z => by
  rw [bare_not]
  · exact S.fr b u q z
  · rintro ⟨j, hj, e⟩
    obtain ⟨d, b', e1, e2, e3, _⟩ := S.ow j hj
    rw [e] at e2
    cases e2
    rw [q] at e3
    cases e3
/-- from a later base back to the elder one -/
theorem SR.back (S : SR K aS O A0 H1 σ H s n) (h : KpS aS H0 H1) : SR K aS O A0 H0 σ H s n :=
  ⟨S.len, S.sh, fun j hj => let ⟨d, b, e1, e2, e3, e4, e5, e6⟩ := S.ow j hj
    ⟨d, b, e1, e2, Option.eq_none_iff_forall_ne_some.mpr fun u z => (KpS.gone h e3 z e5), e4, e5, e6⟩, S.ds, h.trans S.fr, S.st, S.av, S.pn⟩
end
end DL
namespace DL
open PySem PySem.Spec PyProof.Rows L2
variable [TabC]
/-! ### statements -/
def sNil : SM := fun _ de s n => de.nx s n
def sSeq (m r : SM) : SM := fun xq de s n => m xq { de with nx := fun s' n' => r xq de s' n' } s n
def sRet (m : EM D) : SM := fun xq de s n => m xq s n de.rt
def sSet (i : Nat) (m : EM D) : SM := fun xq de s n => m xq s n fun d n' => de.nx (s.set i (some d)) n'
def sIf (t : EM Bool) (a b : SM) : SM := fun xq de s n => t xq s n fun c n' => if c = true then a xq de s n' else b xq de s n'
def sDrop (m : EM D) : SM := fun xq de s n => m xq s n fun _ n' => de.nx s n'
def sNever : SM := fun _ _ _ _ => False
section
variable {X : Cx} {E : XK} {O O' O'' OL : List Nat} {e : Expr} {st : Stmt} {rest : List Stmt} {m : EM D} {ml : EM (List D)} {mt : EM Bool} {ms mr : SM} {pos : Pos} {i : Nat}
theorem vss_nil : VSs X E O O OL [] sNil := ⟨_, pss_nil, fun aS A0 H0 σ H s n xq de De S L k h => k.nx σ H s n S h⟩
theorem vss_cons (h1 : VS X E O O' OL st ms) (h2 : VSs X E O' O'' OL rest mr) : VSs X E O O'' OL (st :: rest) (sSeq ms mr) := by
  obtain ⟨t, p, f⟩ := h1
  obtain ⟨u, p2, f2⟩ := h2
  exact ⟨_, pss_cons p p2, fun aS A0 H0 σ H s n xq de De S L k h => f aS A0 H0 σ H s n xq { de with nx := fun s' n' => mr xq de s' n' } _ S L ⟨fun σ' H' s' n' S' q => f2 aS A0 H0 σ' H' s' n' xq de De S' L k q, k.rt, k.bk, k.ct⟩ h⟩
theorem vss_one (h1 : VS X E O O' OL st ms) : VSs X E O O' OL [st] ms := by
  obtain ⟨t, p, f⟩ := h1
  exact ⟨_, pss_one p, f⟩
/-- what is owned behind may be given up -/
theorem VSs.weak (h : VSs X E O O' OL rest ms) (hw : ∀ j, j ∈ O'' → j ∈ O') : VSs X E O O'' OL rest ms := by
  obtain ⟨t, p, f⟩ := h
  exact ⟨t, p, fun aS A0 H0 σ H s n xq de De S L k q => f aS A0 H0 σ H s n xq de De S L ⟨fun σ' H' s' n' S' q => k.nx σ' H' s' n' (S'.rel hw) q, k.rt, k.bk, k.ct⟩ q⟩
theorem VS.rel (h : VS X E O O' OL st ms) (hw : ∀ j, j ∈ O → j ∈ O'') : VS X E O'' O' OL st ms := by
  obtain ⟨t, p, f⟩ := h
  exact ⟨t, p, fun aS A0 H0 σ H s n xq de De S L k q => f aS A0 H0 σ H s n xq de De (S.rel hw) L k q⟩
theorem av_nil {aS : Addr} {A0 : AS} {O : List Nat} {σ : L2.St} : ∀ a, AV aS A0 [] [] a → AV aS A0 O σ a := fun a h => by
  rcases h with h | h | ⟨j, hj, _⟩
  · exact .inl h
  · exact .inr (.inl h)
  · cases hj
theorem vs_ret (h : VE X E O e m) : VS X E O O' OL (.Return (some e) pos) (sRet m) := by
  obtain ⟨mn, t, p, f⟩ := h
  refine ⟨_, ps_ret p, fun aS A0 H0 σ H s n xq de De S L k h => f aS A0 H0 σ H s n xq _ S L (mn _ _ _ _ _ (fun d n' q v H' kp st r => k.rt v H' d n' (S.fr.trans kp) st (Rep.mono (sub_le av_nil) _ _ r) q) h)⟩
/-- return of a name that owns -/
theorem vs_retO {x : Str} {p' : Pos} (hi : i ∈ O) (hN : X.N[i]? = some x) (hv : Vis X.env.scope x) (hd : (x == ("__debug__" : Str)) = false := by decide) (hcd : (x == ("__classdict__" : Str)) = false := by decide) : VS X E O O' OL (.Return (some (.Name x p')) pos) (sRet (eVar i)) := by
  refine ⟨_, ps_ret (pe_var hN hv hd hcd), fun aS A0 H0 σ H s n xq de De S L k h => ?_⟩
  obtain ⟨d, e, q⟩ := h
  have S' := S.rel (O' := []) (fun _ z => nomatch z)
  obtain ⟨v, ev, r⟩ := S'.sh i d e (fun z => nomatch z)
  exact ⟨v, ev, k.rt v H d n S.fr S.st (Rep.mono (sub_le av_nil) _ _ r) q⟩
theorem vs_if {c : Expr} {a b : List Stmt} {ma mb : SM} (hc : VT X E O c mt) (ha : VSs X E O O' OL a ma) (hb : VSs X E O O' OL b mb) : VS X E O O' OL (.If c a b pos) (sIf mt ma mb) := by
  obtain ⟨mnc, tc, pc, fc⟩ := hc
  obtain ⟨ta, pa, fa⟩ := ha
  obtain ⟨tb, pb, fb⟩ := hb
  refine ⟨_, ps_if pc pa pb, fun aS A0 H0 σ H s n xq de De S L k h => fc aS A0 H0 σ H s n xq _ S L (mnc _ _ _ _ _ (fun c n1 q H1 k1 st1 => ?_) h)⟩
  cases c with
  | true => exact fa aS A0 H0 σ H1 s n1 xq de De (S.step k1 st1) L k q
  | false => exact fb aS A0 H0 σ H1 s n1 xq de De (S.step k1 st1) L k q
theorem vss_never : VSs X E O O' OL rest sNever := ⟨_, pss_never, fun aS A0 H0 σ H s n xq de De S L k h => h⟩
/-- name = e, the name owns nothing behind -/
theorem vs_set {x : Str} {p' : Pos} (hi : i ∉ O) (hnd : X.N.Nodup) (hN : X.N[i]? = some x) (hx : Loc X.env.scope x) (h : VE X E O e m) (hs : swapsWith e (some (.Name x p')) pos.line X.env = pure false := by rfl)
    (hf : X.fn x = true ∨ X.env.scope.names.lookup x = some .local := by first | exact .inl rfl | exact .inr rfl | assumption) : VS X E O O OL (.Assign [.Name x p'] e pos) (sSet i m) := by
  obtain ⟨mn, t, p, f⟩ := h
  refine ⟨_, ps_set hnd hN hx p hs hf, fun aS A0 H0 σ H s n xq de De S L k h => f aS A0 H0 σ H s n xq _ S L (mn _ _ _ _ _ (fun d n' q v H' kp st r => ?_) h)⟩
  exact k.nx _ H' _ n' ((S.step kp st).set hi r) q
/-- name = a new object: the name owns it -/
theorem vs_setF {x : Str} {p' : Pos} (hi : i ∉ O) (hi0 : i ≠ 0) (hnd : X.N.Nodup) (hN : X.N[i]? = some x) (hx : Loc X.env.scope x) (h : VF X E O e m) (hs : swapsWith e (some (.Name x p')) pos.line X.env = pure false := by rfl)
    (hf : X.fn x = true ∨ X.env.scope.names.lookup x = some .local := by first | exact .inl rfl | exact .inr rfl | assumption) : VS X E O (i :: O) OL (.Assign [.Name x p'] e pos) (fun xq de s n => i < s.length ∧ sSet i m xq de s n) := by
  obtain ⟨mn, t, p, f⟩ := h
  refine ⟨_, ps_set hnd hN hx p hs hf, fun aS A0 H0 σ H s n xq de De S L k h => f aS A0 H0 σ H s n xq _ S L (mn _ _ _ _ _ (fun d n' q a H' ha kp st o => ?_) h.2)⟩
  exact k.nx _ H' _ n' (S.own hi hi0 h.1 ha kp st o) q
theorem vs_expr (h : VE X E O e m) (hs : swapsWith e none pos.line X.env = pure false := by rfl) : VS X E O O OL (.Expr e pos) (sDrop m) := by
  obtain ⟨mn, t, p, f⟩ := h
  exact ⟨_, ps_expr p hs, fun aS A0 H0 σ H s n xq de De S L k h => f aS A0 H0 σ H s n xq _ S L (mn _ _ _ _ _ (fun d n' q v H' kp st r => k.nx _ H' _ n' (S.step kp st) q) h)⟩
/-! ### lists that are owned -/
def sApp (i : Nat) (m : EM D) : SM := fun xq de s n => ∃ ds, s[i]? = some (some (.lst ds)) ∧ m xq s n fun d n' => ds.length < LIM ∧ de.nx (s.set i (some (.lst (ds ++ [d])))) n'
def sIns (i : Nat) (m : EM (List D)) : SM := fun xq de s n => ∃ ds, s[i]? = some (some (.lst ds)) ∧ m xq s n fun l n' => ∃ (k : Nat) (d : D), l = [.int k, d] ∧ ds.length < LIM ∧ k ≤ LIM ∧ de.nx (s.set i (some (.lst (ds.take k ++ [d] ++ ds.drop k)))) n'
theorem own_lst {K : PySem.W.Frag} {aS : Addr} {H H0 : Hp} {A0 : A0T} {O : List Nat} {σ : L2.St} {s : Ev} {n i : Nat} {ds : List D} (S : SR K aS O A0 H0 σ H s n) (hi : i ∈ O) (e : s[i]? = some (some (.lst ds))) : ∃ a xs, σ[i]? = some (some (.ref a)) ∧ a ≠ aS ∧ H a = some (.lst xs) ∧ RepL K aS H (AV aS A0 O σ) ds xs := by
  obtain ⟨d, a, e1, e2, e3, e4, e5, e6⟩ := S.ow i hi
  rw [e] at e1
  cases e1
  obtain ⟨xs, h, r⟩ := e6
  exact ⟨a, xs, e2, e5, h, r⟩
theorem own_dic {K : PySem.W.Frag} {aS : Addr} {H H0 : Hp} {A0 : A0T} {O : List Nat} {σ : L2.St} {s : Ev} {n i : Nat} {ds : List (Key × D)} (S : SR K aS O A0 H0 σ H s n) (hi : i ∈ O) (e : s[i]? = some (some (.dic ds))) : ∃ a xs, σ[i]? = some (some (.ref a)) ∧ a ≠ aS ∧ H a = some (.dK xs) ∧ RepK K aS H (AV aS A0 O σ) ds xs := by
  obtain ⟨d, a, e1, e2, e3, e4, e5, e6⟩ := S.ow i hi
  rw [e] at e1
  cases e1
  obtain ⟨xs, h, r⟩ := e6
  exact ⟨a, xs, e2, e5, h, r⟩
/-- the list a slot owns is another one -/
theorem SR.mutL {K : PySem.W.Frag} {aS a : Addr} {H H0 : Hp} {A0 : A0T} {σ : L2.St} {s : Ev} {n : Nat} {ds : List D} {xs ys : List V} (S : SR K aS O A0 H0 σ H s n) (hi : i ∈ O) (e : σ[i]? = some (some (.ref a))) (ho : H a = some (.lst xs)) (r : RepL K aS H (AV aS A0 O σ) ds ys) :
    SR K aS O A0 H0 σ (upd H a (.lst ys)) (s.set i (some (.lst ds))) n := by
  refine S.mut hi e ho (fun _ z => nomatch z) (fun _ _ z => nomatch z) ⟨ys, upd_same, ?_⟩
  have hA : AV aS A0 O σ a := .inr (.inr ⟨i, hi, e⟩)
  have ne : ∀ b, ¬ AV aS A0 O σ b → b ≠ a := fun b h z => h (z ▸ hA)
  have up : ∀ b u, H b = some u → b ≠ a → upd H a (.lst ys) b = some u := fun b u q z => by rw [upd_ne z]; exact q
  refine RepL.mono ⟨fun b xs h q => ⟨h, up _ _ q (ne b h)⟩, fun b xs q => q.elim (fun q => .inl (up _ _ q fun z => ?_)) .inr, fun b ys h q => ⟨h, ?_⟩, fun b ys h q => ⟨h, ?_⟩, fun b C dx ys h q => ⟨h, up _ _ q (ne b h)⟩, fun b u _ h q => ⟨h, up _ _ q (ne b h)⟩⟩ _ _ r
  · have q : H b = _ := q
    rw [z, ho] at q
    cases q
  all_goals
    rcases q with q | ⟨z, q⟩
    · exact .inl (up _ _ q (ne b h))
    · exact .inr ⟨z, up _ _ q (ne b h)⟩
theorem SR.mutD {K : PySem.W.Frag} {aS a : Addr} {H H0 : Hp} {A0 : A0T} {σ : L2.St} {s : Ev} {n : Nat} {ds : List (Key × D)} {xs ys : List (Key × V)} (S : SR K aS O A0 H0 σ H s n) (hi : i ∈ O) (e : σ[i]? = some (some (.ref a))) (ho : H a = some (.dK xs)) (r : RepK K aS H (AV aS A0 O σ) ds ys) :
    SR K aS O A0 H0 σ (upd H a (.dK ys)) (s.set i (some (.dic ds))) n := by
  refine S.mut hi e ho (fun _ z => nomatch z) (fun _ _ z => nomatch z) ⟨ys, upd_same, ?_⟩
  have hA : AV aS A0 O σ a := .inr (.inr ⟨i, hi, e⟩)
  have ne : ∀ b, ¬ AV aS A0 O σ b → b ≠ a := fun b h z => h (z ▸ hA)
  have up : ∀ b u, H b = some u → b ≠ a → upd H a (.dK ys) b = some u := fun b u q z => by rw [upd_ne z]; exact q
  refine RepK.mono ⟨fun b xs h q => ⟨h, up _ _ q (ne b h)⟩, fun b xs q => q.elim (fun q => .inl (up _ _ q fun z => ?_)) .inr, fun b ys h q => ⟨h, ?_⟩, fun b ys h q => ⟨h, ?_⟩, fun b C dx ys h q => ⟨h, up _ _ q (ne b h)⟩, fun b u _ h q => ⟨h, up _ _ q (ne b h)⟩⟩ _ _ r
  · have q : H b = _ := q
    rw [z, ho] at q
    cases q
  all_goals
    rcases q with q | ⟨z, q⟩
    · exact .inl (up _ _ q (ne b h))
    · exact .inr ⟨z, up _ _ q (ne b h)⟩
theorem lim_lt {k : Nat} (h : k < LIM) : k < sizeLine := by unfold LIM at h; rw [sizeLine_eq]; omega
theorem vs_append {x : Str} {p' ap cp : Pos} (hi : i ∈ O) (hN : X.N[i]? = some x) (hv : Vis X.env.scope x) (h : VE X E O e m)
    (hpe : ∀ {to : TE} {t : TA}, PE X (.Name x p') to → PA X [e] t → PE X (.Call (.Attribute (.Name x p') "append" ap) [e] [] cp) (tBM X.K "list" rAppend to t) := by
      intro to t h1 h2; exact pe_bm PySem.F.plainAttrs_list PySem.F.slot_list_append PySem.F.type_list_append mt_append h1 h2)
    (hs : swapsWith (.Call (.Attribute (.Name x p') "append" ap) [e] [] cp) none pos.line X.env = pure false := by rfl) (hst : starEach [e] X.env = (false, eval e X.env) :: starEach [] X.env := by rfl)
    (hd : (x == ("__debug__" : Str)) = false := by decide) (hcd : (x == ("__classdict__" : Str)) = false := by decide) : VS X E O O OL (.Expr (.Call (.Attribute (.Name x p') "append" ap) [e] [] cp) pos) (sApp i m) := by
  obtain ⟨mn, t, p, f⟩ := h
  refine ⟨_, ps_expr (hpe (pe_var hN hv hd hcd) (pa_cons p pa_nil hst)) hs, fun aS A0 H0 σ H s n xq de De S L k h => ?_⟩
  obtain ⟨ds, es, h⟩ := h
  obtain ⟨a, xs, z1, z2, z3, z4⟩ := own_lst S hi es
  refine ⟨_, z1, .inl ⟨rfl, _, SqL.of z3⟩, f aS A0 H0 σ H s n xq _ S L (mn _ _ _ _ _ (fun d n' q v H' kp st r => ?_) h)⟩
  have z3' := kp _ _ z3 z2
  have z4' := z4.kp kp S.st AV.st
  exact ⟨a, xs, v, rfl, rfl, z3', by rw [z4.length]; exact lim_lt q.1, k.nx _ _ _ _ ((S.step kp st).mutL hi z1 z3' (z4'.app (RepL.cons r RepL.nil))) q.2⟩
theorem vs_insert {x : Str} {e2 : Expr} {p' ap cp : Pos} (hi : i ∈ O) (hN : X.N[i]? = some x) (hv : Vis X.env.scope x) (h : VA Rep X E O [e, e2] ml)
    (hpe : ∀ {to : TE} {t : TA}, PE X (.Name x p') to → PA X [e, e2] t → ∃ r, PE X (.Call (.Attribute (.Name x p') "insert" ap) [e, e2] [] cp) (tBM X.K "list" r to t) ∧ ∀ v vs H Q, (∃ l xs i y, v = V.ref l ∧ vs = [V.int i, y] ∧ H l = some (HO.lst xs) ∧ xs.length < sizeLine ∧ 0 ≤ i ∧ i < 2 ^ 63 ∧ Q V.non (upd H l (HO.lst (List.take i.toNat xs ++ [y] ++ List.drop i.toNat xs)))) → r v vs H Q := by
      intro to t h1 h2; exact ⟨_, pe_bm PySem.F.plainAttrs_list PySem.F.slot_list_insert PySem.F.type_list_insert mt_insert h1 h2, fun _ _ _ _ h => h⟩)
    (hs : swapsWith (.Call (.Attribute (.Name x p') "insert" ap) [e, e2] [] cp) none pos.line X.env = pure false := by rfl)
    (hd : (x == ("__debug__" : Str)) = false := by decide) (hcd : (x == ("__classdict__" : Str)) = false := by decide) : VS X E O O OL (.Expr (.Call (.Attribute (.Name x p') "insert" ap) [e, e2] [] cp) pos) (sIns i ml) := by
  obtain ⟨mn, t, p, f⟩ := h
  obtain ⟨r, pe, hr⟩ := hpe (pe_var hN hv hd hcd) p
  refine ⟨_, ps_expr pe hs, fun aS A0 H0 σ H s n xq de De S L k h => ?_⟩
  obtain ⟨ds, es, h⟩ := h
  obtain ⟨a, xs, z1, z2, z3, z4⟩ := own_lst S hi es
  refine ⟨_, z1, .inl ⟨rfl, _, SqL.of z3⟩, f aS A0 H0 σ H s n xq _ S L (mn _ _ _ _ _ (fun d n' q v H' kp st r => ?_) h)⟩
  obtain ⟨j, d, ed, hl, hj, q⟩ := q
  subst ed
  obtain ⟨v1, v2, ev, r1, r2⟩ := rl_two r
  simp only [Rep] at r1
  subst ev r1
  have z3' := kp _ _ z3 z2
  have z4' := z4.kp kp S.st AV.st
  refine hr _ _ _ _ ⟨a, xs, j, v2, rfl, rfl, z3', by rw [z4.length]; exact lim_lt hl, by omega, by unfold LIM at hj; omega, ?_⟩
  rw [Int.toNat_natCast]
  exact k.nx _ _ _ _ ((S.step kp st).mutL hi z1 z3' (((z4'.take j).app (RepL.cons r2 RepL.nil)).app (z4'.drop j))) q
/-- f.append(xs.pop(e)), both owned -/
def sAppPop (j i : Nat) (m : EM D) : SM := fun xq de s n => ∃ fs ds, s[j]? = some (some (.lst fs)) ∧ s[i]? = some (some (.lst ds)) ∧ m xq s n fun d n' => ∃ (k : Nat) (x : D), d = .int k ∧ ds[k]? = some x ∧ ds.length ≤ LIM ∧ fs.length < LIM ∧ de.nx ((s.set i (some (.lst (ds.eraseIdx k)))).set j (some (.lst (fs ++ [x])))) n'
end
end DL
namespace DL
open PySem L2
open PySem.Spec
open PyProof.Rows
/-! enumerate of a tuple: the kit has the list alone -/
abbrev enumO (src : Addr) : Obj := { cls := .type "enumerate", data := .fields #[.none, .bool false, .ref src, rawInt 0, .none, .none] }
/-- enumerate.__new__ over whatever begins a walk -/
theorem new_enum {v : Value} {o : Obj} {C : Heap → Prop} (B : Begins v o C) :
    Meets (Builtin.«enumerate.__new__» ⟨[.type "enumerate", v], []⟩) (fun _ R s => C s.heap ∧ R (.ok (.ret (.ref (s.heap.push o).objs.size))) { s with heap := (s.heap.push o).push (enumO s.heap.objs.size) }) := by
  refine Meets.of_wp fun prog w A R s ⟨hC, hR⟩ => ?_
  cases s with
  | mk hp gs dd tk os =>
    have isub := sub_enumerate
    have start : ∀ {A' : Around} {E Q : Value → Shared → Prop}, Q (.ref hp.objs.size) ⟨hp.push o, gs, dd, tk, os⟩ → wpAny (model prog w) A' (pyIter v) Q E ⟨hp, gs, dd, tk, os⟩ := fun {A' E Q} q => B.iter prog w A' E ⟨hp, gs, dd, tk, os⟩ Q hC q
    wp_walk using start
    refine wpAny_stack_any fun _ => ?_
    refine wpAny_pure ?_
    split
    · next c _ _ _ _ _ =>
      generalize (c == Value.type "enumerate") = same
      cases same
      all_goals
        wp_walk using start
        exact ⟨_, rfl, hR⟩
    · wp_walk using start
      exact ⟨_, rfl, hR⟩
/-- the pair e over the tuple iterator t of the tuple a, i items told -/
structure EnT (e t a : Addr) (i : Nat) (h : Heap) : Prop where
  ne : e ≠ t
  src : h.IsTupleIter t a i
  enum : ∃ old, IsEnum h e t (i : Int) old
theorem EnT.moved {e t a : Addr} {i : Nat} {h h' : Heap} (z : EnT e t a i h) (k : ∀ b ∈ [e, t], ∀ o, h.get? b = some o → h'.get? b = some o) : EnT e t a i h' := by
  obtain ⟨old, q⟩ := z.enum
  exact ⟨z.ne, z.src.at (k t (by simp)), old, k e (by simp) _ q⟩
/-- enumerate(a tuple): iterator and pair are laid, all else stays -/
theorem made_enum {prog : Program} {w : World} {A : Around} {E Q : Value → Shared → Prop} {s : Shared} {a : Addr} {items : Array Value} (tp : s.heap.IsTuple a items)
    (fin : ∀ h', EnT (s.heap.objs.size + 1) s.heap.objs.size a 0 h' → (∀ b o, s.heap.get? b = some o → h'.get? b = some o) → Q (.ref (s.heap.objs.size + 1)) { s with heap := h' }) : wpAny (model prog w) A (call (.type "enumerate") [.ref a]) Q E s := by
  have B := begins_tuple a items
  refine callType_new F.called_enumerate (by decide) (F.typeCall_enumerate_1 _) (F.newCall_enumerate_1 _) (fun self => F.args_object_init_2 self _) F.entry_enumerate_new (new_enum B) ⟨tp, ?_⟩
  have size1 : ∀ o : Obj, (s.heap.push o).objs.size = s.heap.objs.size + 1 := fun o => Heap.size_push ..
  have top := fun o : Obj => Heap.get?_push_size (s.heap.push o) (o := enumO s.heap.objs.size) rfl
  show _ ∧ _
  rw [size1]
  have top' := top { cls := .type "tuple_iterator", data := .fields #[.ref a, .int 0 0] }
  rw [size1] at top'
  refine ⟨⟨_, top', rfl⟩, fin _ ⟨Nat.succ_ne_self _, ⟨_, Heap.get?_push_of_some _ (Heap.get?_push_size _ B.free), rfl, rfl⟩, .none, top'⟩ fun b o q => Heap.get?_push_of_some _ (Heap.get?_push_of_some _ q)⟩
/-- the tuple at a, each item beside its place in a new pair -/
def ItET (K : PySem.W.Frag) (a : Addr) : It where
  go i H := ∃ xs : List V, SqT K H a xs ∧ i < xs.length
  yld i H v H' := ∃ q x, H q = none ∧ v = .ref q ∧ H' = upd H q (.tup [.int (i : Nat), x]) ∧ ∀ xs, SqT K H a xs → xs[i]? = some x
  stop i H := ∃ xs : List V, SqT K H a xs ∧ xs.length = i
section
variable {P : Program} {w : World} {K : PySem.W.Frag} {elts : List Expr} {kk : Nat} {tpos : Pos} {a e t : Addr}
theorem turn_enumT (nae : a ≠ e) (nat : a ≠ t) : Turn P w K (.Tuple elts kk tpos) (ItET K a) [e, t] e (EnT e t a) where
  mem := List.mem_cons_self
  keep := fun _ _ _ z k => z.moved k
  self := fun _ _ _ _ _ z q => Exists.elim z.enum fun _ en => wpAny_pyIter_enum en q
  obj := fun i h z b hb => by
    obtain ⟨_, en⟩ := z.enum
    obtain ⟨ob, at_, _, dat⟩ := z.src
    have two : b = e ∨ b = t := by simpa using hb
    refine two.elim (fun y => ?_) fun y => ?_ <;> subst y
    · exact ⟨_, en, fun _ y => nomatch y⟩
    · exact ⟨ob, at_, fun _ y => by rw [dat] at y; cases y⟩
  done := fun X eP ew eK calm i pins s σ H E inv foot z ⟨xs, sq, len⟩ => by
    subst eP ew eK
    obtain ⟨its, vals, isT, _⟩ := inv.tuple sq
    obtain ⟨_, en⟩ := z.enum
    have sz : its.toArray.size = i := by rw [List.size_toArray, ← vals.length, len]
    have dr := Draws.tuple (prog := X.prog) (w := X.w) (A := X.A.in1) (show X.A.in1.handled = none from inv.ok.hd calm) t a nat its.toArray
    have ft := foot t (by simp)
    exact wpAny_pyNext_enum_endD dr en (by rw [sz]; exact ⟨z.src, isT⟩) fun h' same => ⟨rfl, inv.turned (t' := s.toks) same ft.1 ft.2.1 ft.2.2.2.1 ft.2.2.2.2.1 ft.2.2.2.2.2⟩
  item := fun X eP ew eK calm i pins s σ H E inv foot z ⟨xs, sq, lt⟩ => by
    subst eP ew eK
    obtain ⟨its, vals, isT, _⟩ := inv.tuple sq
    obtain ⟨old, en⟩ := z.enum
    obtain ⟨u, at_u, rel⟩ := vals.get (List.getElem?_eq_getElem lt)
    have elow : e < s.heap.objs.size := Heap.lt_size en
    have tlow : t < s.heap.objs.size := let ⟨_, y, _⟩ := z.src; Heap.lt_size y
    have dr := Draws.tuple (prog := X.prog) (w := X.w) (A := X.A.in1) (show X.A.in1.handled = none from inv.ok.hd calm) t a nat its.toArray
    refine wpAny_pyNext_enum_itemC dr en ⟨z.src, isT⟩ (by rw [List.size_toArray, ← vals.length]; exact lt) z.ne (by simp; exact ⟨z.ne, Ne.symm nae⟩) fun y h' tk drawn owned src' pair _ rest => ?_
    obtain rfl : u = y := Option.some.inj (at_u.symm.trans (by simpa using drawn))
    refine ⟨_, rfl, wpAny_letOwnedTupleGo_enum (s := { s with heap := h', toks := tk + 1 }) owned fun h'' en' but => ?_⟩
    have pair' := (but.2 _ (Nat.ne_of_gt elow)).trans pair
    have others : ∀ b ob, b ∉ [e, t] → s.heap.get? b = some ob → h''.get? b = some ob := fun b ob nb q => (but.2 b fun y => nb (y ▸ List.mem_cons_self)).trans (rest b ob (fun y => nb (y ▸ List.mem_cons_self)) (fun y => nb (by simp [y])) q)
    have laid : ObjOk X.prog X.w (upd H s.heap.objs.size (.tup [.int (i : Nat), xs[i]])) h'' s.heap.objs.size (.tup [.int (i : Nat), xs[i]]) := ⟨by show 2 ≤ sizeLine; decide, _, .cons ⟨tk, rfl⟩ (.cons rel .nil), _, pair', rfl, _, rfl⟩
    refine ⟨.ref s.heap.objs.size, _, inv.turnedNew (t' := tk + 1) others foot (Nat.le_refl _) laid, rfl, ⟨_, xs[i], inv.hok.fresh (Nat.le_refl _), rfl, rfl, fun zs sq' => ?_⟩, ⟨z.ne, src'.1.at fun o q => (but.2 t (Ne.symm z.ne)).trans q, u, ?_⟩, fun b hb => ?_⟩
    · rw [inv.tuple_inj sq' sq]
      exact List.getElem?_eq_getElem lt
    · rw [Int.natCast_succ]
      exact en'
    · have low : b < s.heap.objs.size := (List.mem_cons.mp hb).elim (fun y => y ▸ elow) fun y => List.mem_singleton.mp y ▸ tlow
      rw [upd_ne (Nat.ne_of_lt low)]
      exact (foot b hb).1
theorem walk_enumT {xs : List V} : Walk (ItET K a) xs.length (fun H => SqT K H a xs) (YPair (fun i => some (.int (i : Nat))) (fun i => xs[i]?)) where
  goes := fun _ _ lt sq => ⟨xs, sq, lt⟩
  stops := fun _ sq => ⟨xs, sq, rfl⟩
  yields := fun i _ _ _ _ sq ⟨q, x, new, ev, eH, tells⟩ => ⟨q, .int (i : Nat), x, ev, new, eH, rfl, tells xs sq⟩
end
/-- a list or a tuple, enumerated -/
def iEnumA (K : PySem.W.Frag) (ta : TA) : TI := fun σ H R => ta σ H fun vs H1 => ∃ a xs, vs = [.ref a] ∧ ((SqL K H1 a xs ∧ R (Ite K a) H1) ∨ (SqT K H1 a xs ∧ R (ItET K a) H1))
section
variable {X : Cx} {elts : List Expr} {kk : Nat} {tpos : Pos} {pins : List (Addr × Obj)} {σ : L2.St} {H : Hp} {s : Shared} {R : It → Hp → Prop} {a : Addr} {xs : List V}
/-- two new objects are nobody's -/
theorem new_foot (inv : Inv X pins σ H s) : ∀ b ∈ [s.heap.objs.size + 1, s.heap.objs.size], FpOk X pins H b := fun b hb => by
  have up : s.heap.objs.size ≤ b := (List.mem_cons.mp hb).elim (fun y => y ▸ Nat.le_succ _) fun y => Nat.le_of_eq (List.mem_singleton.mp y).symm
  exact inv.fpOk up (inv.hok.fresh up)
theorem enum_made (inv : Inv X pins σ H s) (q : (SqL X.K H a xs ∧ R (Ite X.K a) H) ∨ (SqT X.K H a xs ∧ R (ItET X.K a) H)) :
    wpAny (model X.prog X.w) X.A (call (.type "enumerate") [.ref a]) (fun v s1 => wpAny (model X.prog X.w) X.A (pyIter v) (PIE X pins σ (.Tuple elts kk tpos) R) X.xe s1) X.xe s := by
  cases q with
  | inl q =>
    obtain ⟨_, _, li, _⟩ := inv.list q.1
    exact call_enumerate_list li.isList fun h' en it _ same => wpAny_pyIter_enum en ⟨_, _, _, _, H, rfl, inv.kept (t' := s.toks) same, turn_enum a _ _, ⟨⟨.none, en⟩, it, Nat.succ_ne_self _⟩, new_foot inv, q.2⟩
  | inr q =>
    obtain ⟨_, _, tp, _⟩ := inv.tuple q.1
    have low : a < s.heap.objs.size := let ⟨_, y, _⟩ := tp; Heap.lt_size y
    exact made_enum tp fun h' z same => Exists.elim z.enum fun _ en => wpAny_pyIter_enum en ⟨_, _, _, _, H, rfl, inv.kept (t' := s.toks) same, turn_enumT (Nat.ne_of_lt (Nat.lt_succ_of_lt low)) (Nat.ne_of_lt low), z, new_foot inv, q.2⟩
theorem pi_enumA {e : Expr} {ta : TA} {p pos : Pos} (hg : Gl X "enumerate") (hm : X.mg "enumerate" = none) (ha : PA X [e] ta) (hs : starEach [e] X.env = [(false, eval e X.env)] := by rfl) :
    PI X (.Tuple elts kk tpos) (.Call (.Name "enumerate" p) [e] [] pos) (iEnumA X.K ta) where
  run pins s σ H R inv h := Call_ (ld_blt inv hg hm boot_enumerate (callWith_type1 (thn (ha.run pos pins s σ H _ inv h) fun us s1 ⟨vs, H1, inv1, rel, a, xs, ev, q⟩ => by
    subst ev
    obtain ⟨u, eu, ru⟩ := vals1 rel
    subst eu
    cases ru
    exact enum_made inv1 q) hs rfl))
end
end DL
namespace DL
open PySem PySem.Spec PyProof.Rows L2
variable [TabC]
/-! ### what is walked -/
def Far (aS : Addr) (A0 : AS) (Hb : Hp) (A : AS) : Prop := A aS ∧ ∀ b, A b → A0 b ∨ b = aS ∨ Hb b = none
def ItOk (K : PySem.W.Frag) (aS : Addr) (A0 : AS) (ds : List D) (J : It) (Hb : Hp) : Prop := ∃ (G : Hp → Prop) (Y : Nat → Hp → V → Hp → Prop), Walk J ds.length G Y ∧ (∀ H1, KpS aS Hb H1 → G H1) ∧
  ∀ (i : Nat) (H1 : Hp) (x : V) (H2 : Hp) (n : Nat) (A : AS), i < ds.length → KpS aS Hb H1 → StA K aS H1 n → Far aS A0 Hb A → Y i H1 x H2 → Gr H1 H2 ∧ ∃ d, ds[i]? = some d ∧ Rep K aS H2 A d x
def hideL (s : Ev) : List Nat → Ev
  | [] => s
  | v :: vs => (hideL s vs).set v none
def VI (X : Cx) (E : XK) (O OB hid : List Nat) (tg iter : Expr) (m : EM (List D)) : Prop := Mn m ∧ ∃ wi, PI X tg iter wi ∧ ∀ (aS : Addr) (A0 : A0T) (H0 : Hp) (σ : L2.St) (H : Hp) (s : Ev) (n : Nat) (xq : XQ) (R : It → Hp → Prop), SR X.K aS O A0 H0 σ H s n → LX X.K E aS A0 H0 xq →
  m xq s n (fun ds n' => ∀ J H' (A1 : A0T), KpS aS H H' → StA X.K aS H' n' → AV aS A1 OB σ = AV aS A0 O σ → SR X.K aS OB A1 H0 σ H' (hideL s hid) n' → ItOk X.K aS A1 ds J (bare OB σ H') → R J H') → wi σ H R
/-- .. in a statement -/
def VIs (X : Cx) (E : XK) (O : List Nat) (tg iter : Expr) (m : EM (List D)) : Prop := Mn m ∧ ∃ wi, PI X tg iter wi ∧ ∀ (aS : Addr) (A0 : A0T) (H0 : Hp) (σ : L2.St) (H : Hp) (s : Ev) (n : Nat) (xq : XQ) (R : It → Hp → Prop), SR X.K aS O A0 H0 σ H s n → LX X.K E aS A0 H0 xq →
  m xq s n (fun ds n' => ∀ J H', KpS aS H H' → StA X.K aS H' n' → ItOk X.K aS A0 ds J (bare O σ H') → R J H') → wi σ H R
theorem VIs.vi {X : Cx} {E : XK} {O : List Nat} {tg iter : Expr} {m : EM (List D)} (h : VIs X E O tg iter m) : VI X E O O [] tg iter m := by
  obtain ⟨mn, wi, p, f⟩ := h
  exact ⟨mn, wi, p, fun aS A0 H0 σ H s n xq R S L hm => f aS A0 H0 σ H s n xq R S L (mn _ _ _ _ _ (fun ds n' q J H' kp st it => q J H' A0 kp st rfl (S.step kp st) it) hm)⟩
section
variable {K : PySem.W.Frag} {aS a : Addr} {H H' H0 H1 Hb : Hp} {A : AS} {A0 : A0T} {O OB : List Nat} {σ : L2.St} {s : Ev} {n : Nat}
theorem KpS.all (k : ∀ b u, H b = some u → H' b = some u) : KpS aS H H' := fun b u e _ => .of (k b u e)
/-- what does not meet what slots own stands on the base -/
theorem SR.onBase (S : SR K aS O A0 H0 σ H s n) (h1 : KpS aS (bare O σ H) H1) (hF : Far aS A0 (bare O σ H) A) : Sub K H H1 (AV aS A0 O σ) A := by
  have nb : ∀ b, ¬ AV aS A0 O σ b → bare O σ H b = H b := fun b h => bare_not fun z => h (.inr (.inr z))
  have ne : ∀ b, ¬ AV aS A0 O σ b → b ≠ aS := fun b h z => h (.inr (.inl z))
  have nA : ∀ b u, ¬ AV aS A0 O σ b → H b = some u → ¬ A b := fun b u h q z => by
    rcases hF.2 b z with z | z | z
    · exact h (.inl z)
    · exact h (.inr (.inl z))
    · rw [nb b h, q] at z
      cases z
  have up : ∀ b u, ¬ AV aS A0 O σ b → H b = some u → Kp1 u (H1 b) := fun b u h q => h1 b u ((nb b h).trans q) (ne b h)
  refine ⟨fun b xs h q => ⟨nA _ _ h q, up _ _ h q⟩, fun b xs q => q.elim (fun q => .inl (h1 b (.tup xs) ?_ fun z => ?_)) .inr, fun b ys h q => ?_, fun b ys h q => ?_, fun b C dx ys h q => ⟨nA _ _ h q, up _ _ h q⟩, fun b u hu h q => ⟨nA _ _ h q, Kp1.xo hu (up _ _ h q)⟩⟩
  · rw [bare_not]
    · exact q
    · rintro ⟨j, hj, e⟩
      obtain ⟨d, b', e1, e2, e3, e4, e5, e6⟩ := S.ow j hj
      rw [e] at e2
      cases e2
      cases d with
      | lst ds => obtain ⟨xs, e, _⟩ := e6; rw [q] at e; cases e
      | dic ds => obtain ⟨xs, e, _⟩ := e6; rw [q] at e; cases e
      | dmx ds => obtain ⟨xs, e, _⟩ := e6; rw [q] at e; unfold MD.MixO at e; cases e
      | obj C ds => obtain ⟨dx, xs, e, _⟩ := e6; rw [q] at e; cases e
      | _ => exact e6.elim
  · obtain ⟨ys, e⟩ := S.st.lst
    rw [z, e] at q
    cases q
  all_goals
    rcases q with q | ⟨z, q⟩
    · exact ⟨nA _ _ h q, .inl (up _ _ h q)⟩
    · exact ⟨nA _ _ h q, .inr ⟨z, up _ _ h q⟩⟩
theorem SR.far (S : SR K aS O A0 H0 σ H s n) : Far aS A0 (bare O σ H) (fun b => A0 b ∨ b = aS) := ⟨.inr rfl, fun b z => z.elim .inl fun z => .inr (.inl z)⟩
theorem SR.onT (S : SR K aS O A0 H0 σ H s n) (h1 : KpS aS (bare O σ H) H1) {xs : List V} (h : TpA K H a xs) : TpA K H1 a xs := (S.onBase h1 S.far).t _ _ h
theorem it_yat {K : PySem.W.Frag} {aS : Addr} {A0 : AS} {ds : List D} {xs : List V} {Hb : Hp} {J : It} {G : Hp → Prop} (w : Walk J xs.length G (YAt xs)) (hl : xs.length = ds.length) (hG : ∀ H1, KpS aS Hb H1 → G H1)
    (hr : ∀ H1 A, KpS aS Hb H1 → Far aS A0 Hb A → RepL K aS H1 A ds xs) : ItOk K aS A0 ds J Hb := by
  refine ⟨G, YAt xs, hl ▸ w, hG, fun i H1 x H2 n A hi k st hF y => ?_⟩
  obtain ⟨e, ex⟩ := y
  subst e
  exact ⟨Gr.refl _, RepL.get' (hr _ A k hF) ex⟩
theorem SR.itL (S : SR K aS O A0 H0 σ H s n) {ds : List D} {xs : List V} (ha : ¬ AV aS A0 O σ a) (h : H a = some (.lst xs)) (r : RepL K aS H (AV aS A0 O σ) ds xs) : ItOk K aS A0 ds (Itl K a) (bare O σ H) :=
  it_yat walk_list r.length (fun H1 k => SqL.of (k a _ ((bare_not fun z => ha (.inr (.inr z))).trans h) fun z => ha (.inr (.inl z)))) fun H1 A k hF => RepL.mono (S.onBase k hF) _ _ r
theorem SR.itT (S : SR K aS O A0 H0 σ H s n) {ds : List D} {xs : List V} (h : TpA K H a xs) (r : RepL K aS H (AV aS A0 O σ) ds xs) : ItOk K aS A0 ds (Itt K a) (bare O σ H) :=
  it_yat walk_tup r.length (fun H1 k => (S.onT k h).sq) fun H1 A k hF => RepL.mono (S.onBase k hF) _ _ r
end
def signs (x : Str) : List D := x.cps.toList.map fun c => .str ⟨#[c]⟩
def dIter : D → Option (List D)
  | .lst xs => some xs
  | .tup xs => some xs
  | .str x => some (signs x)
  | _ => none
def eIter (m : EM D) : EM (List D) := fun xq s n Q => m xq s n fun d n' => ∃ ds, dIter d = some ds ∧ Q ds n'
section
variable {X : Cx} {E : XK} {O OB OL : List Nat} {e tg : Expr} {m : EM D} {pos : Pos}
def IterV (K : PySem.W.Frag) (x : V) (H : Hp) (R : It → Hp → Prop) : Prop := (∃ a xs, x = .ref a ∧ H a = some (.lst xs) ∧ R (Itl K a) H) ∨ (∃ a xs, x = .ref a ∧ TpA K H a xs ∧ R (Itt K a) H) ∨ ∃ z, x = .str z ∧ R (Its z) H
theorem pi_dyn {te : TE} (he : PE X e te) : PI X tg e (fun σ H R => te σ H fun x H1 => IterV X.K x H1 R) := by
  refine ⟨fun pins s σ H R I h => thn (he.run pins s σ H _ I h) fun v s1 ⟨x, H1, I1, r1, q1⟩ => ?_⟩
  rcases q1 with ⟨a, xs, ex, hq, q⟩ | ⟨a, xs, ex, hq, q⟩ | ⟨z, ex, q⟩
  · subst ex
    cases r1
    obtain ⟨its, rv, p, hz⟩ := I1.list (SqL.of hq)
    exact wpAny_pyIter_list p.isList (pi_one (tk := s1.toks) I1 _ (turn_list a _) ⟨_, Heap.get?_push_size _ rfl, rfl, rfl⟩ q)
  · subst ex
    cases r1
    obtain ⟨its, rv, p, hz⟩ := I1.tuple hq.sq
    exact wpAny_pyIter_tuple (show s1.heap.IsTuple a its.toArray from p) (pi_one (tk := s1.toks) I1 _ (turn_tuple a _) ⟨_, Heap.get?_push_size _ rfl, rfl, rfl⟩ q)
  · subst ex
    obtain ⟨t, rfl⟩ := r1
    cases ha : z.cps.all (· < 128)
    · exact wpAny_pyIter_wide ha (pi_one (tk := s1.toks) I1 _ (turn_str _ z t _ (.inr rfl)) ⟨_, Heap.get?_push_size _ rfl, rfl, rfl⟩ q)
    · exact wpAny_pyIter_ascii ha (pi_one (tk := s1.toks) I1 _ (turn_str _ z t _ (.inl rfl)) ⟨_, Heap.get?_push_size _ rfl, rfl, rfl⟩ q)
theorem it_str {K : PySem.W.Frag} {aS : Addr} {A0 : AS} {z : Str} {Hb : Hp} : ItOk K aS A0 (signs z) (Its z) Hb := by
  have hl : (signs z).length = z.cps.size := by simp [signs]
  refine ⟨fun _ => True, _, hl ▸ walk_str, fun _ _ => trivial, fun i H1 x H2 n A hi k st hF y => ?_⟩
  obtain ⟨e, c, hc, ex⟩ := y
  subst e ex
  refine ⟨Gr.refl _, .str ⟨#[c]⟩, ?_, rep_str⟩
  unfold signs
  rw [List.getElem?_map, Array.getElem?_toList, hc]
  rfl
theorem mn_iter (h : Mn m) : Mn (eIter m) := fun xq s n Q Q' hq w => h _ _ _ _ _ (fun d n' ⟨ds, e, q⟩ => ⟨ds, e, hq _ _ q⟩) w
theorem vi_seq (h : VE X E O e m) : VIs X E O tg e (eIter m) := by
  obtain ⟨mn, t, p, f⟩ := h
  refine ⟨mn_iter mn, _, pi_dyn p, fun aS A0 H0 σ H s n xq R S L hm => f aS A0 H0 σ H s n xq _ S L (mn _ _ _ _ _ (fun d n' q v H' kp st r => ?_) hm)⟩
  obtain ⟨ds, e, q⟩ := q
  have S' := S.step kp st
  have q := fun J => q J H' kp st
  unfold dIter at e
  split at e
  · cases e
    rw [Rep] at r
    obtain ⟨a, xs, ev, ha, hq, rl⟩ := r
    exact .inl ⟨a, xs, ev, hq, q _ (S'.itL ha hq rl)⟩
  · cases e
    rw [Rep] at r
    obtain ⟨a, xs, ev, hq, rl⟩ := r
    exact .inr (.inl ⟨a, xs, ev, hq, q _ (S'.itT hq rl)⟩)
  · cases e
    rw [Rep] at r
    exact .inr (.inr ⟨_, r, q _ it_str⟩)
  · cases e
/-- over a list that a slot owns: it is hidden meanwhile -/
theorem vi_own {x : Str} {i : Nat} (hi : i ∈ O) (hN : X.N[i]? = some x) (hv : Vis X.env.scope x) (hd : (x == ("__debug__" : Str)) = false := by decide) (hcd : (x == ("__classdict__" : Str)) = false := by decide) :
    VI X E O (O.filter (· != i)) [i] tg (.Name x pos) (fun xq s n Q => ∃ ds, s[i]? = some (some (.lst ds)) ∧ Q ds n) := by
  refine ⟨fun xq s n Q Q' hq ⟨ds, e, q⟩ => ⟨ds, e, hq _ _ q⟩, _, pi_dyn (pe_var hN hv hd hcd), fun aS A0 H0 σ H s n xq R S L hm => ?_⟩
  obtain ⟨ds, e, q⟩ := hm
  obtain ⟨d, a, e1, e2, e3, e4, e5, e6⟩ := S.ow i hi
  rw [e] at e1
  cases e1
  obtain ⟨xs, ha, rl⟩ := e6
  have mem : ∀ j, j ∈ O.filter (· != i) ↔ j ∈ O ∧ j ≠ i := fun j => by simp [List.mem_filter]
  have eA : AV aS (⟨fun b => A0 b ∨ b = a, A0.z⟩ : A0T) (O.filter (· != i)) σ = AV aS A0 O σ := by
    funext b
    refine propext ⟨fun z => ?_, fun z => ?_⟩
    · rcases z with (z | z) | z | ⟨j, hj, ej⟩
      · exact .inl z
      · exact .inr (.inr ⟨i, hi, z ▸ e2⟩)
      · exact .inr (.inl z)
      · exact .inr (.inr ⟨j, ((mem j).mp hj).1, ej⟩)
    · rcases z with z | z | ⟨j, hj, ej⟩
      · exact .inl (.inl z)
      · exact .inr (.inl z)
      · by_cases hji : j = i
        · subst hji
          rw [e2] at ej
          cases ej
          exact .inl (.inr rfl)
        · exact .inr (.inr ⟨j, (mem j).mpr ⟨hj, hji⟩, ej⟩)
  have nin : i ∉ O.filter (· != i) := fun z => ((mem i).mp z).2 rfl
  have S1 : SR X.K aS (O.filter (· != i)) ⟨fun b => A0 b ∨ b = a, A0.z⟩ H0 σ H (s.set i none) n := by
    refine ⟨by rw [List.length_set]; exact S.len, fun j d' ej hj => ?_, fun j hj => ?_, fun j l b hj hl => S.ds j l b ((mem j).mp hj).1 ((mem l).mp hl).1, S.fr, S.st, fun b hb => ?_, fun z => S.pn ((mem 0).mp z).1⟩
    · rw [eA]
      by_cases hji : j = i
      · subst hji
        have hl : j < s.length := (List.getElem?_eq_some_iff.mp e).1
        rw [List.getElem?_set_self hl] at ej
        cases ej
      · rw [set_other hji] at ej
        exact S.sh j d' ej fun z => hj ((mem j).mpr ⟨z, hji⟩)
    · rw [eA]
      have hj' := (mem j).mp hj
      rw [set_other hj'.2]
      obtain ⟨d', b, q1, q2, q3, q4, q5, q6⟩ := S.ow j hj'.1
      exact ⟨d', b, q1, q2, q3, fun z => z.elim q4 fun z => hj'.2 (S.ds j i a hj'.1 hi (z ▸ q2) e2), q5, q6⟩
    · rcases hb with hb | hb
      · exact S.av b hb
      · exact ⟨_, hb ▸ ha⟩
  refine ⟨.ref a, e2, .inl ⟨a, xs, rfl, ha, q _ H ⟨fun b => A0 b ∨ b = a, A0.z⟩ KpS.refl S.st eA S1 ?_⟩⟩
  have hb : bare (O.filter (· != i)) σ H a = some (.lst xs) := by
    rw [bare_not]
    · exact ha
    · rintro ⟨j, hj, ej⟩
      exact ((mem j).mp hj).2 (S.ds j i a ((mem j).mp hj).1 hi ej e2)
  refine it_yat walk_list rl.length (fun H1 k => SqL.of (k a _ hb e5)) fun H1 A k hF => RepL.mono (S1.onBase k hF) _ _ ?_
  rw [eA]
  exact rl
/-! ranges -/
def eRange1 (m : EM D) : EM (List D) := fun xq s n Q => m xq s n fun d n' => ∃ j : Int, d = .int j ∧ j ≤ LIM ∧ -(2 ^ 62) ≤ j ∧ Q ((List.range j.toNat).map fun i => .int (i : Nat)) n'
theorem it_range {K : PySem.W.Frag} {aS : Addr} {A0 : AS} {lo : Int} {k : Nat} {Hb : Hp} {f : Nat → D} (hf : ∀ i, f i = .int (lo + (i : Nat))) : ItOk K aS A0 ((List.range k).map f) (Itr lo k) Hb := by
  have hl : ((List.range k).map f).length = k := by simp
  refine ⟨fun _ => True, _, (by rw [hl]; exact walk_range (lo := lo) (n := k)), fun _ _ => trivial, fun i H1 x H2 n A hi kp st hF y => ?_⟩
  obtain ⟨e, ex⟩ := y
  subst e ex
  refine ⟨Gr.refl _, .int (lo + (i : Nat)), ?_, rep_int⟩
  rw [List.getElem?_map, List.getElem?_range (by simpa using hi)]
  exact congrArg some (hf i)
theorem vi_range1 {a : Expr} {p : Pos} (hg : Gl X "range") (hm : X.mg "range" = none) (h : VB X E O a m) (hs : starEach [a] X.env = [(false, eval a X.env)] := by rfl) (hs' : starEach [a] X.env = (false, eval a X.env) :: starEach [] X.env := by rfl) : VIs X E O tg (.Call (.Name "range" p) [a] [] pos) (eRange1 m) := by
  obtain ⟨mn, t, pe, f⟩ := h
  refine ⟨fun xq s n Q Q' hq w => mn _ _ _ _ _ (fun d n' ⟨j, e1, e2, e3, q⟩ => ⟨j, e1, e2, e3, hq _ _ q⟩) w, _, pi_range1 hg hm (pa_cons pe pa_nil hs') hs, fun aS A0 H0 σ H s n xq R S L hm => f aS A0 H0 σ H s n xq _ S L (mn _ _ _ _ _ (fun d n' q v H' kp st r => ?_) hm)⟩
  obtain ⟨j, e1, e2, e3, q⟩ := q
  subst e1
  refine ⟨j, by rw [repB_int r], e3, by unfold LIM at e2; omega, q _ H' kp st (it_range fun i => by rw [Int.zero_add])⟩
/-! enumerate, zip -/
def pairsD : Nat → List D → List D
  | _, [] => []
  | k, d :: ds => .tup [.int (k : Nat), d] :: pairsD (k + 1) ds
theorem pairsD_length : ∀ (k : Nat) (ds : List D), (pairsD k ds).length = ds.length
  | _, [] => rfl
  | k, d :: ds => by rw [pairsD, List.length_cons, List.length_cons, pairsD_length (k + 1) ds]
theorem pairsD_get : ∀ (k i : Nat) (ds : List D) (d : D), ds[i]? = some d → (pairsD k ds)[i]? = some (.tup [.int ((k + i : Nat) : Int), d])
  | _, _, [], _, h => by simp at h
  | k, 0, d :: ds, d', h => by
    simp at h
    subst h
    rfl
  | k, i + 1, d :: ds, d', h => by
    rw [pairsD, List.getElem?_cons_succ, pairsD_get (k + 1) i ds d' (by simpa using h)]
    have e : k + 1 + i = k + (i + 1) := by omega
    rw [e]
theorem it_ypair {K : PySem.W.Frag} {aS : Addr} {A0 : AS} {ds : List D} {Hb : Hp} {J : It} {k : Nat} {G : Hp → Prop} {f g : Nat → Option V} (w : Walk J k G (YPair f g)) (hl : k = ds.length) (hG : ∀ H1, KpS aS Hb H1 → G H1)
    (hr : ∀ i H1 A x y, i < ds.length → KpS aS Hb H1 → Far aS A0 Hb A → f i = some x → g i = some y → ∃ d1 d2, ds[i]? = some (.tup [d1, d2]) ∧ Rep K aS H1 A d1 x ∧ Rep K aS H1 A d2 y) : ItOk K aS A0 ds J Hb := by
  subst hl
  refine ⟨G, _, w, hG, fun i H1 v H2 n A hi kp st hF y => ?_⟩
  obtain ⟨T, x, y, ev, hT, e2, h1, h2⟩ := y
  subst ev e2
  obtain ⟨d1, d2, e, r1, r2⟩ := hr i H1 A x y hi kp hF h1 h2
  refine ⟨Gr.upd hT, _, e, rep_tup (.inl upd_same) ?_⟩
  exact RepL.kp (KpS.upd hT) st hF.1 (RepL.cons r1 (RepL.cons r2 RepL.nil))
def dSeq : D → Option (List D)
  | .lst xs => some xs
  | .tup xs => some xs
  | _ => none
def eEnum (m : EM D) : EM (List D) := fun xq s n Q => m xq s n fun d n' => ∃ ds, dSeq d = some ds ∧ Q (pairsD 0 ds) n'
theorem vi_enum {a : Expr} {p tpos : Pos} {elts : List Expr} {kk : Nat} (hg : Gl X "enumerate") (hm : X.mg "enumerate" = none) (h : VE X E O a m) (hs : starEach [a] X.env = [(false, eval a X.env)] := by rfl) (hs' : starEach [a] X.env = (false, eval a X.env) :: starEach [] X.env := by rfl) :
    VIs X E O (.Tuple elts kk tpos) (.Call (.Name "enumerate" p) [a] [] pos) (eEnum m) := by
  obtain ⟨mn, t, pe, f⟩ := h
  refine ⟨fun xq s n Q Q' hq w => mn _ _ _ _ _ (fun d n' ⟨j, e1, q⟩ => ⟨j, e1, hq _ _ q⟩) w, _, pi_enumA hg hm (pa_cons pe pa_nil hs') hs, fun aS A0 H0 σ H s n xq R S L hm => f aS A0 H0 σ H s n xq _ S L (mn _ _ _ _ _ (fun d n' q v H' kp st r => ?_) hm)⟩
  obtain ⟨ds, e, q⟩ := q
  have S' := S.step kp st
  have q := fun J => q J H' kp st
  have fin : ∀ {xs : List V}, RepL X.K aS H' (AV aS A0 O σ) ds xs → ∀ i H1 A x y, i < (pairsD 0 ds).length → KpS aS (bare O σ H') H1 → Far aS A0 (bare O σ H') A → (some (V.int (i : Nat)) : Option V) = some x → xs[i]? = some y → ∃ d1 d2, (pairsD 0 ds)[i]? = some (.tup [d1, d2]) ∧ Rep X.K aS H1 A d1 x ∧ Rep X.K aS H1 A d2 y := by
    intro xs rl i H1 A x y hi k1 st1 hx hy
    cases hx
    obtain ⟨d2, e2, r2⟩ := RepL.get' (RepL.mono (S'.onBase k1 st1) _ _ rl) hy
    refine ⟨.int (i : Nat), d2, ?_, rep_int, r2⟩
    rw [pairsD_get 0 i ds d2 e2, Nat.zero_add]
  unfold dSeq at e
  split at e
  · cases e
    rw [Rep] at r
    obtain ⟨b, xs, ev, ha, hq, rl⟩ := r
    refine ⟨b, xs, by rw [ev], .inl ⟨SqL.of hq, q _ (it_ypair walk_enum (by rw [pairsD_length, rl.length]) (fun H1 k => SqL.of (k b _ ((bare_not fun z => ha (.inr (.inr z))).trans hq) fun z => ha (.inr (.inl z)))) (fin rl))⟩⟩
  · cases e
    rw [Rep] at r
    obtain ⟨b, xs, ev, hq, rl⟩ := r
    refine ⟨b, xs, by rw [ev], .inr ⟨hq.sq, q _ (it_ypair walk_enumT (by rw [pairsD_length, rl.length]) (fun H1 k => (S'.onT k hq).sq) (fin rl))⟩⟩
  · cases e
def zipD : List D → List D → List D
  | x :: xs, y :: ys => .tup [x, y] :: zipD xs ys
  | _, _ => []
theorem zipD_length : ∀ xs ys : List D, (zipD xs ys).length = min xs.length ys.length
  | [], _ => by simp [zipD]
  | _ :: _, [] => by simp [zipD]
  | x :: xs, y :: ys => by rw [zipD, List.length_cons, zipD_length xs ys, List.length_cons, List.length_cons]; omega
theorem zipD_get : ∀ (i : Nat) (xs ys : List D) (x y : D), xs[i]? = some x → ys[i]? = some y → (zipD xs ys)[i]? = some (.tup [x, y])
  | _, [], _, _, _, h, _ => by simp at h
  | _, _ :: _, [], _, _, _, h => by simp at h
  | 0, x :: xs, y :: ys, _, _, h, h2 => by
    simp at h h2
    subst h h2
    rfl
  | i + 1, x :: xs, y :: ys, x', y', h, h2 => by
    rw [zipD, List.getElem?_cons_succ]
    exact zipD_get i xs ys x' y' (by simpa using h) (by simpa using h2)
theorem walk_zipT {K : PySem.W.Frag} {a b : Addr} {xs ys : List V} {n : Nat} (hn : n = min xs.length ys.length) : Walk (RZ.ItzT K a b) n (fun H => SqT K H a xs ∧ SqT K H b ys) (YPair (fun i => xs[i]?) (fun i => ys[i]?)) where
  goes := fun i H hi ⟨qa, qb⟩ => ⟨xs, ys, xs[i]'(by omega), ys[i]'(by omega), qa, qb, List.getElem?_eq_getElem _, List.getElem?_eq_getElem _⟩
  stops := fun H ⟨qa, qb⟩ => ⟨xs, ys, qa, qb, by omega⟩
  yields := fun i H v H' _ ⟨qa, qb⟩ ⟨T, x, y, e1, e2, e3, ea, eb⟩ => ⟨T, x, y, e1, e2, e3, ea xs qa, eb ys qb⟩
/-- two lists, or two tuples -/
def dZip : D → D → Option (List D)
  | .lst xs, .lst ys => some (zipD xs ys)
  | .tup xs, .tup ys => some (zipD xs ys)
  | _, _ => none
def eZip (a b : EM D) : EM (List D) := fun xq s n Q => a xq s n fun x n1 => b xq s n1 fun y n2 => ∃ ds, dZip x y = some ds ∧ Q ds n2
theorem vi_zip {a b : Expr} {ma mb : EM D} {p tpos : Pos} {elts : List Expr} {kk : Nat} (hg : Gl X "zip") (hm : X.mg "zip" = none) (ha : VE X E O a ma) (hb : VE X E O b mb)
    (hs : starEach [a, b] X.env = (false, eval a X.env) :: starEach [b] X.env := by rfl) (hpl : (backTo pos (starEach [b] X.env)).any (·.1) = false := by rfl) (hs'' : starEach [b] X.env = (false, eval b X.env) :: starEach [] X.env := by rfl) :
    VIs X E O (.Tuple elts kk tpos) (.Call (.Name "zip" p) [a, b] [] pos) (eZip ma mb) := by
  obtain ⟨mna, ta, pa, fa⟩ := ha
  obtain ⟨mnb, tb, pb, fb⟩ := hb
  refine ⟨fun xq s n Q Q' hq w => mna _ _ _ _ _ (fun d n' w => mnb _ _ _ _ _ (fun d' n'' ⟨i, e1, q⟩ => ⟨i, e1, hq _ _ q⟩) w) w, _, RZ.pi_zipA hg hm (pa_cons pa (pa_cons pb pa_nil hs'') hs) hs hpl, fun aS A0 H0 σ H s n xq R S L hm => ?_⟩
  refine fa aS A0 H0 σ H s n xq _ S L (mna _ _ _ _ _ (fun d1 n1 q v1 H1 k1 st1 r1 => ?_) hm)
  refine fb aS A0 H0 σ H1 s n1 xq _ (S.step k1 st1) L (mnb _ _ _ _ _ (fun d2 n2 q2 v2 H2 k2 st2 r2 => ?_) q)
  obtain ⟨ds, e, q3⟩ := q2
  have S' := S.step (k1.trans k2) st2
  have q3 := fun J => q3 J H2 (k1.trans k2) st2
  have r1 := r1.kp k2 st1 AV.st
  have fin : ∀ {xs ys : List V} {us ws : List D}, RepL X.K aS H2 (AV aS A0 O σ) us xs → RepL X.K aS H2 (AV aS A0 O σ) ws ys → ∀ i H1 A x y, i < (zipD us ws).length → KpS aS (bare O σ H2) H1 → Far aS A0 (bare O σ H2) A → xs[i]? = some x → ys[i]? = some y → ∃ d1 d2, (zipD us ws)[i]? = some (.tup [d1, d2]) ∧ Rep X.K aS H1 A d1 x ∧ Rep X.K aS H1 A d2 y := by
    intro xs ys us ws rl rl2 i H1 A x y hi k1 st1 hx hy
    obtain ⟨d1, e1, r1⟩ := RepL.get' (RepL.mono (S'.onBase k1 st1) _ _ rl) hx
    obtain ⟨d2, e2, r2⟩ := RepL.get' (RepL.mono (S'.onBase k1 st1) _ _ rl2) hy
    exact ⟨d1, d2, zipD_get i us ws d1 d2 e1 e2, r1, r2⟩
  unfold dZip at e
  split at e
  · cases e
    rw [Rep] at r1 r2
    obtain ⟨b1, xs, ev, ha, hq, rl⟩ := r1
    obtain ⟨b2, ys, ev2, ha2, hq2, rl2⟩ := r2
    subst ev ev2
    refine ⟨b1, b2, xs, ys, rfl, .inl ⟨SqL.of hq, SqL.of hq2, q3 _ (it_ypair (walk_zip rfl) (by rw [zipD_length, rl.length, rl2.length]) (fun H1 k => ⟨SqL.of (k b1 _ ((bare_not fun z => ha (.inr (.inr z))).trans hq) fun z => ha (.inr (.inl z))), SqL.of (k b2 _ ((bare_not fun z => ha2 (.inr (.inr z))).trans hq2) fun z => ha2 (.inr (.inl z)))⟩) (fin rl rl2))⟩⟩
  · cases e
    rw [Rep] at r1 r2
    obtain ⟨b1, xs, ev, hq, rl⟩ := r1
    obtain ⟨b2, ys, ev2, hq2, rl2⟩ := r2
    subst ev ev2
    refine ⟨b1, b2, xs, ys, rfl, .inr ⟨hq.sq, hq2.sq, q3 _ (it_ypair (walk_zipT rfl) (by rw [zipD_length, rl.length, rl2.length]) (fun H1 k => ⟨(S'.onT k hq).sq, (S'.onT k hq2).sq⟩) (fin rl rl2))⟩⟩
  · cases e
end
end DL
namespace DL
open PySem PySem.Spec PyProof.Rows L2
variable [TabC]
/-! ### targets -/
abbrev DG := D → Ev → (Ev → Prop) → Prop
abbrev DGs := List D → Ev → (Ev → Prop) → Prop
/-- a target stores into the slots vs alone -/
def VG (X : Cx) (O vs : List Nat) (tg : Expr) (g : DG) : Prop := (∀ d s Q Q', (∀ s', Q s' → Q' s') → g d s Q → g d s Q') ∧ ∃ gt, PG X tg gt ∧ ∀ (aS : Addr) (A0 : A0T) (H0 : Hp) (σ : L2.St) (H : Hp) (s : Ev) (n : Nat) (d : D) (v : V) (Q : Ev → Prop) (QH : L2.St → Hp → Prop), SR X.K aS O A0 H0 σ H s n → Rep X.K aS H (AV aS A0 O σ) d v → g d s Q →
  (∀ σ' s', SR X.K aS O A0 H0 σ' H s' n → σ'.length = σ.length → (∀ j, j ∉ vs → σ'[j]? = σ[j]?) → AV aS A0 O σ' = AV aS A0 O σ → Q s' → QH σ' H) → gt v σ H QH
def VGs (X : Cx) (O vs : List Nat) (tg : List Expr) (g : DGs) : Prop := (∀ d s Q Q', (∀ s', Q s' → Q' s') → g d s Q → g d s Q') ∧ ∃ gt, PGs X tg gt ∧ ∀ (aS : Addr) (A0 : A0T) (H0 : Hp) (σ : L2.St) (H : Hp) (s : Ev) (n : Nat) (d : List D) (v : List V) (Q : Ev → Prop) (QH : L2.St → Hp → Prop), SR X.K aS O A0 H0 σ H s n → RepL X.K aS H (AV aS A0 O σ) d v → g d s Q →
  (∀ σ' s', SR X.K aS O A0 H0 σ' H s' n → σ'.length = σ.length → (∀ j, j ∉ vs → σ'[j]? = σ[j]?) → AV aS A0 O σ' = AV aS A0 O σ → Q s' → QH σ' H) → gt v σ H QH
def gNm (i : Nat) : DG := fun d s Q => Q (s.set i (some d))
def gTp (g : DGs) : DG := fun d s Q => ∃ ds, d = .tup ds ∧ g ds s Q
def gsNil : DGs := fun ds s Q => ds = [] ∧ Q s
def gsCons (g : DG) (r : DGs) : DGs := fun ds s Q => ∃ d dr, ds = d :: dr ∧ g d s fun s' => r dr s' Q
section
variable {X : Cx} {E : XK} {O O' OB OL vs ws hid : List Nat} {e tg : Expr} {es : List Expr} {m : EM D} {mi : EM (List D)} {mt : EM Bool} {mb : SM} {g : DG} {gs : DGs} {pos : Pos} {i : Nat}
theorem vg_name {x : Str} (hi : i ∉ O) (hnd : X.N.Nodup) (hN : X.N[i]? = some x) (hx : Loc X.env.scope x) (hf : X.fn x = true ∨ X.env.scope.names.lookup x = some .local := by first | exact .inl rfl | exact .inr rfl | assumption) : VG X O [i] (.Name x pos) (gNm i) := by
  refine ⟨fun _ _ _ _ hq h => hq _ h, _, pg_name hnd hN hx hf, fun aS A0 H0 σ H s n d v Q QH S r h k => ?_⟩
  exact k _ _ (S.set hi r) (by rw [List.length_set]) (fun j hj => set_other fun z => hj (by simp [z])) (AV.set hi) h
theorem vgs_nil : VGs X O [] [] gsNil := ⟨fun _ _ _ _ hq h => ⟨h.1, hq _ h.2⟩, _, pgs_nil, fun aS A0 H0 σ H s n d v Q QH S r h k => by
  obtain ⟨e, h⟩ := h
  subst e
  rw [RepL] at r
  exact ⟨r, k σ s S rfl (fun _ _ => rfl) rfl h⟩⟩
theorem vgs_cons (h1 : VG X O vs e g) (h2 : VGs X O ws es gs) (hs : (assignEach (e :: es) X.env).map (·.2) = assign e X.env :: (assignEach es X.env).map (·.2) := by rfl) : VGs X O (vs ++ ws) (e :: es) (gsCons g gs) := by
  obtain ⟨n1, g1, p1, f1⟩ := h1
  obtain ⟨n2, g2, p2, f2⟩ := h2
  refine ⟨fun _ _ _ _ hq ⟨d, dr, e, h⟩ => ⟨d, dr, e, n1 _ _ _ _ (fun _ h => n2 _ _ _ _ hq h) h⟩, _, pgs_cons p1 p2 hs, fun aS A0 H0 σ H s n d v Q QH S r h k => ?_⟩
  obtain ⟨d1, dr, ed, h⟩ := h
  subst ed
  rw [RepL] at r
  obtain ⟨v1, vr, ev, r1, r2⟩ := r
  refine ⟨v1, vr, ev, f1 aS A0 H0 σ H s n d1 v1 _ _ S r1 h fun σ1 s1 S1 l1 o1 a1 q1 => ?_⟩
  refine f2 aS A0 H0 σ1 H s1 n dr vr Q QH S1 (by rw [a1]; exact r2) q1 fun σ2 s2 S2 l2 o2 a2 q2 => ?_
  refine k σ2 s2 S2 (l2.trans l1) (fun j hj => ?_) (a2.trans a1) q2
  rw [o2 j fun z => hj (List.mem_append_right _ z), o1 j fun z => hj (List.mem_append_left _ z)]
theorem vg_tup {k : Nat} {n : Nat} (hc : X.calm = true) (h : VGs X O vs es gs) (hl : ∀ ds s Q, gs ds s Q → ds.length = n) (hn : (assignEach es X.env).length = n := by rfl) (hst : (assignEach es X.env).findIdx? (·.1) = none := by rfl) : VG X O vs (.Tuple es k pos) (gTp gs) := by
  obtain ⟨n1, g1, p1, f1⟩ := h
  refine ⟨fun _ _ _ _ hq ⟨ds, e, h⟩ => ⟨ds, e, n1 _ _ _ _ hq h⟩, _, pg_tup hc p1 hn hst, fun aS A0 H0 σ H s n d v Q QH S r h k => ?_⟩
  obtain ⟨ds, ed, h⟩ := h
  subst ed
  rw [Rep] at r
  obtain ⟨a, xs, ev, hq, rl⟩ := r
  exact ⟨a, xs, ev, hq.sq, by rw [rl.length]; exact hl _ _ _ h, f1 aS A0 H0 σ H s n ds xs Q QH S rl h k⟩
/-- target = e, the target a tuple of names (or any) -/
def sAsg (m : EM D) (g : DG) : SM := fun xq de s n => m xq s n fun d n' => g d s fun s' => de.nx s' n'
theorem vs_asg (h : VE X E O e m) (hg : VG X O vs tg g) (hs : swapsWithSole [tg] e pos.line X.env = pure false := by rfl) (hw : swappedStores [tg] e X.env = pure none := by rfl)
    (h1 : (assignEach [tg] X.env).map (·.2) = [assign tg X.env] := by rfl) : VS X E O O OL (.Assign [tg] e pos) (sAsg m g) := by
  obtain ⟨mn, t, p, f⟩ := h
  obtain ⟨_, g1, p1, f1⟩ := hg
  refine ⟨_, ps_asg p p1 hs hw h1, fun aS A0 H0 σ H s n xq de De S L k h => f aS A0 H0 σ H s n xq _ S L (mn _ _ _ _ _ (fun d n' q v H' kp st r => ?_) h)⟩
  exact f1 aS A0 H0 σ H' s n' d v _ _ (S.step kp st) r q fun σ' s' S' _ _ _ q' => k.nx σ' H' s' n' S' q'
/-! ### for -/
def sForL (g : DG) (mb : SM) (xq : XQ) (de : DE) : List D → Ev → Nat → Prop
  | [], s, n => de.nx s n
  | d :: ds, s, n => g d s fun s1 => mb xq { de with nx := fun s2 n2 => sForL g mb xq de ds s2 n2, ct := fun s2 n2 => sForL g mb xq de ds s2 n2, bk := de.nx } s1 n
def sFor (mi : EM (List D)) (g : DG) (mb : SM) : SM := fun xq de s n => mi xq s n fun ds n1 => sForL g mb xq de ds s n1
theorem LX.base {K : PySem.W.Frag} {aS : Addr} {A0 : AS} {H0 Hb : Hp} {xq : XQ} (L : LX K E aS A0 H0 xq) (h : KpS aS H0 Hb) : LX K E aS A0 Hb xq := fun C fs n d H' k st r q => by
  refine L C fs n d H' (h.trans k) st ?_ q
  cases d with
  | none => exact r
  | some a =>
    obtain ⟨ys, e1, e2, e3⟩ := r
    refine ⟨ys, Option.eq_none_iff_forall_ne_some.mpr fun u z => ?_, e2, e3⟩
    obtain ⟨xs, es⟩ := st.lst
    have na : a ≠ aS := fun z => by rw [z, es] at e2; cases e2
    exact KpS.gone h e1 z na
theorem LK.base {K : PySem.W.Frag} {aS : Addr} {A0 : A0T} {H0 Hb : Hp} {de : DE} {De : Ends} (k : LK K aS O OL A0 H0 de De) (h : KpS aS H0 Hb) : LK K aS O OL A0 Hb de De :=
  ⟨fun σ H s n S q => k.nx σ H s n (S.back h) q, fun v H d n kp st r q => k.rt v H d n (h.trans kp) st r q, fun σ H s n S q => k.bk σ H s n (S.back h) q, fun σ H s n S q => k.ct σ H s n (S.back h) q⟩
theorem drop_get {α : Type} {l : List α} {i : Nat} {x : α} (h : l[i]? = some x) : l.drop i = x :: l.drop (i + 1) := by
  obtain ⟨h1, h2⟩ := List.getElem?_eq_some_iff.mp h
  exact h2 ▸ List.drop_eq_getElem_cons h1
theorem vs_for {iter : Expr} {body : List Stmt} (hp : PassesOwn (model X.prog X.w) X.A X.env X.xe) (hc : X.calm = true) (hi : VIs X E O tg iter mi) (hg : VG X O vs tg g) (hb : VSs X E O O O body mb)
    (hs : ∀ x, foldedSetIterable iter X.env x = pure x := by intro _; rfl) : VS X E O O OL (.For tg iter body [] pos) (sFor mi g mb) := by
  obtain ⟨mn, wi, pi, fi⟩ := hi
  obtain ⟨_, gt, pg, fg⟩ := hg
  obtain ⟨tb, pb, fb⟩ := hb
  refine ⟨_, ps_for hp hc pi pg pb hs, fun aS A0 H0 σ H s n xq de De S L k h => ?_⟩
  refine fi aS A0 H0 σ H s n xq _ S L (mn _ _ _ _ _ (fun ds n1 q J H1 kp st it => ?_) h)
  have S1 := S.step kp st
  have le := S1.le
  have hF : ∀ {σ' H' s' n'}, SR X.K aS O A0 (bare O σ H1) σ' H' s' n' → Far aS A0 (bare O σ H1) (AV aS A0 O σ') := fun {σ' H' s' n'} S' => ⟨AV.st, fun b z => by
    rcases z with z | z | ⟨j, hj, e⟩
    · exact .inl z
    · exact .inr (.inl z)
    · obtain ⟨d, b', e1, e2, e3, _⟩ := S'.ow j hj
      rw [e] at e2
      cases e2
      exact .inr (.inr e3)⟩
  obtain ⟨G, Y, w, hG, hY⟩ := it
  refine for_it w (fun i σ' H' => ∃ s' n', SR X.K aS O A0 (bare O σ H1) σ' H' s' n' ∧ sForL g mb xq de (ds.drop i) s' n') ⟨s, n1, S1.base, q⟩ (fun i σ' H' _ z => ?_) (fun i x σ' H' H2 hi z y => ?_) (fun σ' H' z => ?_)
  · obtain ⟨s', n', S', _⟩ := z
    exact hG H' S'.fr
  · obtain ⟨s', n', S', q'⟩ := z
    obtain ⟨k2, d, ed, rd⟩ := hY i H' x H2 n' _ hi S'.fr S'.st (hF S') y
    rw [drop_get ed] at q'
    have S2 := S'.step (KpS.all k2.1) (S'.st.kp k2)
    refine fg aS A0 _ σ' H2 s' n' d x _ _ S2 rd q' fun σ3 s3 S3 _ _ a3 q3 => ?_
    exact fb aS A0 _ σ3 H2 s3 n' xq { de with nx := fun s2 n2 => sForL g mb xq de (ds.drop (i + 1)) s2 n2, ct := fun s2 n2 => sForL g mb xq de (ds.drop (i + 1)) s2 n2, bk := de.nx } _ S3 (L.base le) ⟨fun σ4 H4 s4 n4 S4 q4 => ⟨s4, n4, S4, q4⟩, (k.base le).rt, fun σ4 H4 s4 n4 S4 q4 => k.nx σ4 H4 s4 n4 (S4.back le) q4, fun σ4 H4 s4 n4 S4 q4 => ⟨s4, n4, S4, q4⟩⟩ q3
  · obtain ⟨s', n', S', q'⟩ := z
    rw [List.drop_length] at q'
    exact k.nx σ' H' s' n' (S'.back le) q'
/-! ### while -/
def sWhileN (mt : EM Bool) (mb : SM) (xq : XQ) (de : DE) : Nat → Ev → Nat → Prop
  | 0, _, _ => False
  | k + 1, s, n => mt xq s n fun c n1 => if c = true then mb xq { de with nx := fun s2 n2 => sWhileN mt mb xq de k s2 n2, ct := fun s2 n2 => sWhileN mt mb xq de k s2 n2, bk := de.nx } s n1 else de.nx s n1
def sWhile (mt : EM Bool) (mb : SM) : SM := fun xq de s n => ∃ k, sWhileN mt mb xq de k s n
theorem vs_while {c : Expr} {body : List Stmt} (hp : PassesOwn (model X.prog X.w) X.A X.env X.xe) (hc : VT X E O c mt) (hb : VSs X E O O O body mb) : VS X E O O OL (.While c body [] pos) (sWhile mt mb) := by
  obtain ⟨mn, tc, pc, fc⟩ := hc
  obtain ⟨tb, pb, fb⟩ := hb
  refine ⟨_, ps_while hp pc pb, fun aS A0 H0 σ H s n xq de De S L k h => ?_⟩
  obtain ⟨j, h⟩ := h
  refine ⟨fun j σ' H' => ∃ s' n', SR X.K aS O A0 H0 σ' H' s' n' ∧ sWhileN mt mb xq de j s' n', ⟨j, s, n, S, h⟩, fun j σ' H' w => ?_⟩
  obtain ⟨s', n', S', w⟩ := w
  cases j with
  | zero => exact w.elim
  | succ j =>
    refine fc aS A0 H0 σ' H' s' n' xq _ S' L (mn _ _ _ _ _ (fun b n1 q H1 k1 st1 => ?_) w)
    cases b with
    | true =>
      rw [if_pos rfl]
      refine ⟨fun σ2 H2 => ∃ s2 n2, SR X.K aS O A0 H0 σ2 H2 s2 n2 ∧ sWhileN mt mb xq de j s2 n2, fun σ2 H2 z => ⟨j, Nat.lt_succ_self j, z⟩, ?_⟩
      exact fb aS A0 H0 σ' H1 s' n1 xq { de with nx := fun s2 n2 => sWhileN mt mb xq de j s2 n2, ct := fun s2 n2 => sWhileN mt mb xq de j s2 n2, bk := de.nx } _ (S'.step k1 st1) L
        ⟨fun σ4 H4 s4 n4 S4 q4 => ⟨s4, n4, S4, q4⟩, k.rt, fun σ4 H4 s4 n4 S4 q4 => k.nx σ4 H4 s4 n4 S4 q4, fun σ4 H4 s4 n4 S4 q4 => ⟨s4, n4, S4, q4⟩⟩ q
    | false =>
      rw [if_neg (by decide)]
      exact k.nx σ' H1 s' n1 (S'.step k1 st1) q
/-! ### comprehensions -/
def sLcL (g : DG) (mt : EM Bool) (me : EM D) (xq : XQ) (s0 : Ev) : List D → Nat → List D → (List D → Nat → Prop) → Prop
  | [], n, acc, Q => Q acc n
  | d :: ds, n, acc, Q => g d s0 fun s1 => mt xq s1 n fun c n1 => if c = true then me xq s1 n1 fun x n2 => sLcL g mt me xq s0 ds n2 (acc ++ [x]) Q else sLcL g mt me xq s0 ds n1 acc Q
def eLc (mi : EM (List D)) (hs : List Nat) (g : DG) (mt : EM Bool) (me : EM D) : EM D := fun xq s n Q => mi xq s n fun ds n1 => ds.length ≤ LIM ∧ sLcL g mt me (fun _ _ => False) (hideL s hs) ds n1 [] fun xs n2 => Q (.lst xs) n2
def tYesD : EM Bool := fun _ _ n Q => Q true n
/-- the tests of a clause -/
def VTs (X : Cx) (E : XK) (O : List Nat) (ifs : List Expr) (m : EM Bool) : Prop := Mn m ∧ ∃ t, PTs X ifs t ∧ ∀ (aS : Addr) (A0 : A0T) (H0 : Hp) (σ : L2.St) (H : Hp) (s : Ev) (n : Nat) (xq : XQ) (Q : Bool → Hp → Prop), SR X.K aS O A0 H0 σ H s n → LX X.K E aS A0 H0 xq →
  m xq s n (fun b n' => ∀ H', KpS aS H H' → StA X.K aS H' n' → Q b H') → t σ H Q
theorem vts_nil : VTs X E O [] tYesD := ⟨fun _ _ _ _ _ hq h => hq _ _ h, _, pts_nil, fun aS A0 H0 σ H s n xq Q S L hm => hm H KpS.refl S.st⟩
theorem vts_one {c : Expr} (h : VT X E O c mt) : VTs X E O [c] mt := by
  obtain ⟨mn, t, p, f⟩ := h
  exact ⟨mn, t, pts_one p, f⟩
end
end DL
namespace DL
open PySem PySem.Spec PyProof.Rows L2
variable [TabC]
section
variable {K : PySem.W.Frag} {aS a p : Addr} {H H' H0 H1 Hb : Hp} {A : AS} {A0 : A0T} {O OB : List Nat} {σ : L2.St} {s : Ev} {n i : Nat}
theorem SR.hide2 (S : SR K aS O A0 H0 σ H s n) (hi : i ∉ O) : SR K aS O A0 H0 (σ.set i none) H (s.set i none) n where
  len := by rw [List.length_set, List.length_set]; exact S.len
  sh := fun j d e hj => by
    rw [AV.set hi]
    by_cases hji : j = i
    · subst hji
      have hl : j < s.length := by
        have := (List.getElem?_eq_some_iff.mp e).1
        rwa [List.length_set] at this
      rw [List.getElem?_set_self hl] at e
      cases e
    · rw [set_other hji] at e ⊢
      exact S.sh j d e hj
  ow := fun j hj => by
    have hji : j ≠ i := fun z => hi (z ▸ hj)
    rw [AV.set hi, set_other hji, set_other hji]
    exact S.ow j hj
  ds := fun j k b hj hk e1 e2 => by
    rw [set_other (show j ≠ i from fun z => hi (z ▸ hj))] at e1
    rw [set_other (show k ≠ i from fun z => hi (z ▸ hk))] at e2
    exact S.ds j k b hj hk e1 e2
  fr := S.fr
  st := S.st
  av := S.av
  pn := fun h a e => by
    rw [set_other (show 0 ≠ i from fun z => hi (z ▸ h))]
    exact S.pn h a e
theorem SR.wipe : ∀ {vs : List Nat}, (∀ j ∈ vs, j ∉ O) → SR K aS O A0 H0 σ H s n → SR K aS O A0 H0 (L2.wipe σ vs) H (hideL s vs) n
  | [], _, S => S
  | v :: vs, h, S => (SR.wipe (vs := vs) (fun j hj => h j (List.mem_cons_of_mem _ hj)) S).hide2 (h v List.mem_cons_self)
theorem AV.wipe {A0 : AS} : ∀ {vs : List Nat}, (∀ j ∈ vs, j ∉ O) → AV aS A0 O (L2.wipe σ vs) = AV aS A0 O σ
  | [], _ => rfl
  | v :: vs, h => (AV.set (h v List.mem_cons_self)).trans (AV.wipe (vs := vs) fun j hj => h j (List.mem_cons_of_mem _ hj))
theorem hideL_append (s : Ev) : ∀ vs hs : List Nat, hideL s (vs ++ hs) = hideL (hideL s hs) vs
  | [], _ => rfl
  | v :: vs, hs => by rw [List.cons_append, hideL, hideL, hideL_append s vs hs]
theorem wipe_out : ∀ {vs : List Nat} {j : Nat}, j ∉ vs → (L2.wipe σ vs)[j]? = σ[j]?
  | [], _, _ => rfl
  | v :: vs, j, h => by
    rw [L2.wipe, set_other (show j ≠ v from fun z => h (z ▸ List.mem_cons_self))]
    exact wipe_out fun z => h (List.mem_cons_of_mem _ z)
theorem wipe_in : ∀ {vs : List Nat} {j : Nat}, j ∈ vs → j < σ.length → (L2.wipe σ vs)[j]? = some none
  | v :: vs, j, h, hl => by
    rw [L2.wipe]
    by_cases z : j = v
    · rw [z]
      exact List.getElem?_set_self (by rw [wipe_length, ← z]; exact hl)
    · rw [set_other z]
      exact wipe_in ((List.mem_cons.mp h).resolve_left z) hl
theorem wipe_eq {σ2 : L2.St} {vs : List Nat} (hl : σ2.length = σ.length) (h : ∀ j, j ∉ vs → σ2[j]? = σ[j]?) : L2.wipe σ2 vs = L2.wipe σ vs := by
  apply List.ext_getElem?
  intro j
  by_cases hj : j ∈ vs
  · by_cases hlt : j < σ.length
    · rw [wipe_in hj hlt, wipe_in hj (by rw [hl]; exact hlt)]
    · rw [List.getElem?_eq_none (by rw [wipe_length, hl]; omega), List.getElem?_eq_none (by rw [wipe_length]; omega)]
  · rw [wipe_out hj, wipe_out hj]
    exact h j hj
theorem AV.plus {A0 : AS} : AV aS (fun b => A0 b ∨ b = p) O σ = fun b => AV aS A0 O σ b ∨ b = p := by
  funext b
  unfold AV
  refine propext ⟨fun z => ?_, fun z => ?_⟩
  · rcases z with (z | z) | z | z
    · exact .inl (.inl z)
    · exact .inr z
    · exact .inl (.inr (.inl z))
    · exact .inl (.inr (.inr z))
  · rcases z with (z | z | z) | z
    · exact .inl (.inl z)
    · exact .inr (.inl z)
    · exact .inr (.inr z)
    · exact .inl (.inr z)
/-- a new object that is kept for oneself -/
theorem SR.laidA {o : HO} (S : SR K aS O A0 H0 σ H s n) (hp : H p = none) (ho : ∀ ps, o ≠ .tbl ps := by intro _ z; cases z) : SR K aS O ⟨fun b => A0 b ∨ b = p, A0.z⟩ H0 σ (upd H p o) s n := by
  have up : ∀ b u, H b = some u → upd H p o b = some u := fun b u e => by rw [upd_ne (ne_of_none e hp)]; exact e
  refine ⟨S.len, fun j d e hj => ?_, fun j hj => ?_, S.ds, S.fr.trans (KpS.upd hp), S.st.upd hp ho, fun b hb => ?_, S.pn⟩
  · rw [AV.plus]
    obtain ⟨v, ev, r⟩ := S.sh j d e hj
    exact ⟨v, ev, Rep.mono (sub_new hp) _ _ r⟩
  · rw [AV.plus]
    obtain ⟨d, b, e1, e2, e3, e4, e5, e6⟩ := S.ow j hj
    refine ⟨d, b, e1, e2, e3, fun z => z.elim e4 fun z => S.new hp (.inr (.inr ⟨j, hj, z ▸ e2⟩)), e5, ?_⟩
    cases d with
    | lst ds => obtain ⟨xs, e, q⟩ := e6; exact ⟨xs, up _ _ e, RepL.mono (sub_new hp) _ _ q⟩
    | dic ds => obtain ⟨xs, e, q⟩ := e6; exact ⟨xs, up _ _ e, RepK.mono (sub_new hp) _ _ q⟩
    | dmx ds => obtain ⟨xs, e, q⟩ := e6; exact ⟨xs, up _ _ e, RepP.mono (sub_new hp) _ _ q⟩
    | obj C ds => obtain ⟨dx, xs, e, q⟩ := e6; exact ⟨dx, xs, up _ _ e, RepF.mono (sub_new hp) _ _ q⟩
    | _ => exact e6.elim
  · rcases hb with hb | hb
    · obtain ⟨u, e⟩ := S.av b hb
      exact ⟨u, up _ _ e⟩
    · exact ⟨o, by rw [hb]; exact upd_same⟩
/-- what is kept for oneself is changed -/
theorem sub_poke {o o' : HO} (hA : A p) (ho : H p = some o) (hk : ∀ xs, o ≠ .tup xs) : Sub K H (upd H p o') A A := by
  have ne : ∀ b, ¬ A b → b ≠ p := fun b h z => h (z ▸ hA)
  have up : ∀ b u, H b = some u → b ≠ p → upd H p o' b = some u := fun b u q z => by rw [upd_ne z]; exact q
  refine ⟨fun b xs h q => ⟨h, up _ _ q (ne b h)⟩, fun b xs q => q.elim (fun q => .inl (up _ _ q fun z => ?_)) .inr, fun b ys h q => ⟨h, ?_⟩, fun b ys h q => ⟨h, ?_⟩, fun b C dx ys h q => ⟨h, up _ _ q (ne b h)⟩, fun b u _ h q => ⟨h, up _ _ q (ne b h)⟩⟩
  · have q : H b = _ := q
    rw [z, ho] at q
    cases q
    exact hk _ rfl
  all_goals
    rcases q with q | ⟨z, q⟩
    · exact .inl (up _ _ q (ne b h))
    · exact .inr ⟨z, up _ _ q (ne b h)⟩
theorem SR.poke {o o' : HO} (S : SR K aS O A0 H0 σ H s n) (hA : A0 p) (hs : p ≠ aS) (ho : H p = some o) (h0 : H0 p = none) (hk : ∀ xs, o ≠ .tup xs) (hf : ∀ ob u, o ≠ .frz ob u) (ht : ∀ ps, o ≠ .tbl ps := by intro _ z; cases z) (hx : ∀ c q, o ≠ LamX.CodeO c q := by intro _ _ z; unfold LamX.CodeO at z; cases z) (ht' : ∀ ps, o' ≠ .tbl ps := by intro _ z; cases z) : SR K aS O A0 H0 σ (upd H p o') s n := by
  have hAV : AV aS A0 O σ p := .inl hA
  have up : ∀ b u, H b = some u → b ≠ p → upd H p o' b = some u := fun b u q z => by rw [upd_ne z]; exact q
  have sub : Sub K H (upd H p o') (AV aS A0 O σ) (AV aS A0 O σ) := sub_poke hAV ho hk
  refine ⟨S.len, fun j d ej hj => ?_, fun j hj => ?_, S.ds, fun b u q z => (S.fr b u q z).trans fun v e' => .of (up _ _ e' (fun z => by rw [z, h0] at q; cases q)), ?_, fun b hb => ?_, S.pn⟩
  · obtain ⟨v, q1, r⟩ := S.sh j d ej hj
    exact ⟨v, q1, Rep.mono sub _ _ r⟩
  · obtain ⟨d, b, q1, q2, q3, q4, q5, q6⟩ := S.ow j hj
    have hb : b ≠ p := fun z => q4 (z ▸ hA)
    refine ⟨d, b, q1, q2, q3, q4, q5, ?_⟩
    cases d with
    | lst ds => obtain ⟨xs, e, q⟩ := q6; exact ⟨xs, up _ _ e hb, RepL.mono sub _ _ q⟩
    | dic ds => obtain ⟨xs, e, q⟩ := q6; exact ⟨xs, up _ _ e hb, RepK.mono sub _ _ q⟩
    | dmx ds => obtain ⟨xs, e, q⟩ := q6; exact ⟨xs, up _ _ e hb, RepP.mono sub _ _ q⟩
    | obj C ds => obtain ⟨dx, xs, e, q⟩ := q6; exact ⟨dx, xs, up _ _ e hb, RepF.mono sub _ _ q⟩
    | _ => exact q6.elim
  · obtain ⟨a0, cs, i', g, m, d', z1, z2, ⟨ob, z3⟩, z4, z5, z6, z7, z8, z9, zt⟩ := S.st
    refine ⟨a0, cs, i', g, m, d', up _ _ z1 (Ne.symm hs), z2, ⟨ob, up _ _ z3 fun z => ?_⟩, z4, z5, z6, z7, z8, z9, tabs_poke zt ho ht hx ht'⟩
    rw [z, ho] at z3
    cases z3
    exact hf _ _ rfl
  · by_cases z : b = p
    · rw [z, upd_same]
      exact ⟨_, rfl⟩
    · obtain ⟨u, q⟩ := S.av b hb
      exact ⟨u, up _ _ q z⟩
end
/-! a reading for all blocks at once -/
abbrev Bk := Shared × Hp × Addr × List (Str × Addr) × List Addr
abbrev Cx.bk (X : Cx) (scope : Scope) (c : Bk) : Cx := X.blk c.1 c.2.1 scope (compEnvC scope c.2.2.2.1 c.2.2.1 X.env) c.2.2.2.2
section
variable {X : Cx} {E : XK} {O OB vs hid : List Nat} {tg e iter : Expr} {ifs : List Expr} {m me : EM D} {mi : EM (List D)} {mt : EM Bool} {g : DG} {scope : Scope} {pos : Pos}
theorem VX.all {R : RK} (h : ∀ c : Bk, VX R (Cx.bk X scope c) E O e m) : ∃ t, (∀ c : Bk, PE (Cx.bk X scope c) e t) ∧ ∀ (aS : Addr) (A0 : A0T) (H0 : Hp) (σ : L2.St) (H : Hp) (s : Ev) (n : Nat) (xq : XQ) (Q : VK), SR X.K aS O A0 H0 σ H s n → LX X.K E aS A0 H0 xq →
    m xq s n (fun d n' => ∀ v H', KpS aS H H' → StA X.K aS H' n' → R X.K aS H' (AV aS A0 O σ) d v → Q v H') → t σ H Q := by
  have h2 := fun c => (h c).2
  refine ⟨fun σ H Q => ∀ c, Classical.choose (h2 c) σ H Q, fun c => ⟨fun pins s σ H Q I q => (Classical.choose_spec (h2 c)).1.run pins s σ H Q I (q c)⟩, fun aS A0 H0 σ H s n xq Q S L hm c => (Classical.choose_spec (h2 c)).2 aS A0 H0 σ H s n xq Q S L hm⟩
theorem VTs.all (h : ∀ c : Bk, VTs (Cx.bk X scope c) E O ifs mt) : ∃ t, (∀ c : Bk, PTs (Cx.bk X scope c) ifs t) ∧ ∀ (aS : Addr) (A0 : A0T) (H0 : Hp) (σ : L2.St) (H : Hp) (s : Ev) (n : Nat) (xq : XQ) (Q : Bool → Hp → Prop), SR X.K aS O A0 H0 σ H s n → LX X.K E aS A0 H0 xq →
    mt xq s n (fun b n' => ∀ H', KpS aS H H' → StA X.K aS H' n' → Q b H') → t σ H Q := by
  have h2 := fun c => (h c).2
  refine ⟨fun σ H Q => ∀ c, Classical.choose (h2 c) σ H Q, fun c => ⟨fun pins s σ H Q I q => (Classical.choose_spec (h2 c)).1.run pins s σ H Q I (q c)⟩, fun aS A0 H0 σ H s n xq Q S L hm c => (Classical.choose_spec (h2 c)).2 aS A0 H0 σ H s n xq Q S L hm⟩
theorem VG.all (h : ∀ c : Bk, VG (Cx.bk X scope c) O vs tg g) : ∃ gt, (∀ c : Bk, PG (Cx.bk X scope c) tg gt) ∧ ∀ (aS : Addr) (A0 : A0T) (H0 : Hp) (σ : L2.St) (H : Hp) (s : Ev) (n : Nat) (d : D) (v : V) (Q : Ev → Prop) (QH : L2.St → Hp → Prop), SR X.K aS O A0 H0 σ H s n → Rep X.K aS H (AV aS A0 O σ) d v → g d s Q →
    (∀ σ' s', SR X.K aS O A0 H0 σ' H s' n → σ'.length = σ.length → (∀ j, j ∉ vs → σ'[j]? = σ[j]?) → AV aS A0 O σ' = AV aS A0 O σ → Q s' → QH σ' H) → gt v σ H QH := by
  have h2 := fun c => (h c).2
  refine ⟨fun v σ H Q => ∀ c, Classical.choose (h2 c) v σ H Q, fun c => ⟨fun pins s σ H v u Q I r q => (Classical.choose_spec (h2 c)).1.run pins s σ H v u Q I r (q c)⟩, fun aS A0 H0 σ H s n d v Q QH S r hm k c => (Classical.choose_spec (h2 c)).2 aS A0 H0 σ H s n d v Q QH S r hm k⟩
def bk0 : Bk := ({}, fun _ => none, 0, [], [])
theorem mn_lcL (h1 : Mn mt) (h2 : Mn me) (h3 : ∀ d s Q Q', (∀ s', Q s' → Q' s') → g d s Q → g d s Q') {xq : XQ} {s0 : Ev} : ∀ (ds : List D) (n : Nat) (acc : List D) (Q Q' : List D → Nat → Prop), (∀ x n, Q x n → Q' x n) → sLcL g mt me xq s0 ds n acc Q → sLcL g mt me xq s0 ds n acc Q'
  | [], n, acc, Q, Q', hq, h => hq _ _ h
  | d :: ds, n, acc, Q, Q', hq, h => h3 _ _ _ _ (fun s1 h => h1 _ _ _ _ _ (fun c n1 h => by
      cases c with
      | true => exact h2 _ _ _ _ _ (fun x n2 h => mn_lcL h1 h2 h3 ds n2 _ Q Q' hq h) h
      | false => exact mn_lcL h1 h2 h3 ds n1 _ Q Q' hq h) h) h
theorem vf_lcAt {own : List (Str × Nat)} {ws : List Nat} (hc : X.calm = true) (hN : X.N.Nodup) (hi : VI X E O OB hid tg iter mi) (ok : BlkOk X.N X.env.scope scope own) (hown : ∀ j ∈ own.map (·.2), j ∉ OB) (hws : ∀ j ∈ ws, j ∈ own.map (·.2))
    (hg : ∀ c : Bk, VG (Cx.bk X scope c) OB ws tg g) (ht : ∀ c : Bk, VTs (Cx.bk X scope c) EF OB ifs mt) (he : ∀ c : Bk, VE (Cx.bk X scope c) EF OB e me) :
    Mn (eLc mi (own.map (·.2) ++ hid) g mt me) ∧ ∃ wi gt tt te, PI X tg iter wi ∧ (∀ c : Bk, PG (Cx.bk X scope c) tg gt) ∧ (∀ c : Bk, PTs (Cx.bk X scope c) ifs tt) ∧ (∀ c : Bk, PE (Cx.bk X scope c) e te) ∧
      ∀ (aS : Addr) (A0 : A0T) (H0 : Hp) (σ : L2.St) (H : Hp) (s : Ev) (n : Nat) (xq : XQ) (Q : VK), SR X.K aS O A0 H0 σ H s n → LX X.K E aS A0 H0 xq →
      eLc mi (own.map (·.2) ++ hid) g mt me xq s n (fun d n' => ∀ a H', H a = none → KpS aS H H' → StA X.K aS H' n' → Own X.K aS H' (fun b => AV aS A0 O σ b ∨ b = a) a d → Q (.ref a) H') → tLc wi gt tt te (own.map (·.2)) σ H Q := by
  have mnt := (ht bk0).1
  have mne := (he bk0).1
  have mng := (hg bk0).1
  obtain ⟨mni, wi, pi, fi⟩ := hi
  obtain ⟨gt, pg, fg⟩ := VG.all hg
  obtain ⟨tt, pt, ft⟩ := VTs.all ht
  obtain ⟨te, pe, fe⟩ := VX.all he
  refine ⟨fun xq s n Q Q' hq h => mni _ _ _ _ _ (fun ds n1 h => ⟨h.1, mn_lcL mnt mne mng _ _ _ _ _ (fun x n2 => hq _ _) h.2⟩) h, wi, gt, tt, te, pi, pg, pt, pe, fun aS A0 H0 σ H s n xq Q S L hm => ?_⟩
  have LF : ∀ A1, LX X.K EF aS A1 H0 (fun _ _ => False) := fun _ _ _ _ _ _ _ _ _ z => z.elim
  refine fi aS A0 H0 σ H s n xq _ S L (mni _ _ _ _ _ (fun ds n1 q J H1 A1 kp st eA S1 it => ?_) hm)
  obtain ⟨hlim, q⟩ := q
  intro Dn hD
  obtain ⟨G, Y, w, hG, hY⟩ := it
  have hDs : Dn ≠ aS := fun z => by
    obtain ⟨xs, e⟩ := st.lst
    rw [z, e] at hD
    cases hD
  have hD0 : H0 Dn = none := Option.eq_none_iff_forall_ne_some.mpr fun u z => by
    exact (KpS.gone S1.fr hD z (hDs)).elim
  have hDH : H Dn = none := Option.eq_none_iff_forall_ne_some.mpr fun u z => by
    exact (KpS.gone kp hD z (hDs)).elim
  have S2 : SR X.K aS OB ⟨fun b => A1 b ∨ b = Dn, A1.z⟩ H0 (L2.wipe σ (own.map (·.2))) (upd H1 Dn (.lst [])) (hideL s (own.map (·.2) ++ hid)) n1 := by
    rw [hideL_append]
    exact (SR.wipe hown S1).laidA hD
  have hFar : ∀ {σ'}, AV aS (fun b => A1 b ∨ b = Dn) OB σ' = AV aS (fun b => A1 b ∨ b = Dn) OB σ → Far aS A1 (bare OB σ H1) (AV aS (fun b => A1 b ∨ b = Dn) OB σ') := fun {σ'} e => by
    rw [e]
    refine ⟨AV.st, fun b z => ?_⟩
    rcases z with (z | z) | z | z
    · exact .inl z
    · refine .inr (.inr ?_)
      by_cases y : ∃ i, i ∈ OB ∧ σ[i]? = some (some (.ref b))
      · exact bare_own y
      · rw [bare_not y, z]; exact hD
    · exact .inr (.inl z)
    · exact .inr (.inr (bare_own z))
  have eW : AV aS (fun b => A1 b ∨ b = Dn) OB (L2.wipe σ (own.map (·.2))) = AV aS (fun b => A1 b ∨ b = Dn) OB σ := AV.wipe hown
  have kb : ∀ {H'}, KpS aS H1 H' → KpS aS (bare OB σ H1) H' := fun {H'} k b u e z => k b u (bare_some e) z
  refine lc_it w (fun i H' => ∃ n' acc xs, SR X.K aS OB ⟨fun b => A1 b ∨ b = Dn, A1.z⟩ H0 (L2.wipe σ (own.map (·.2))) H' (hideL s (own.map (·.2) ++ hid)) n' ∧ KpS aS H1 H' ∧ H' Dn = some (.lst xs) ∧ RepL X.K aS H' (AV aS (fun b => A1 b ∨ b = Dn) OB σ) acc xs ∧ acc.length ≤ i ∧
      sLcL g mt me (fun _ _ => False) (hideL s (own.map (·.2) ++ hid)) (ds.drop i) n' acc (fun xs n2 => ∀ a H', H a = none → KpS aS H H' → StA X.K aS H' n2 → Own X.K aS H' (fun b => AV aS A0 O σ b ∨ b = a) a (.lst xs) → Q (.ref a) H'))
    ⟨n1, [], [], S2, KpS.upd hD, upd_same, RepL.nil, Nat.zero_le _, q⟩ (fun i H' _ z => ?_) (fun i x H' H2 hi z y => ?_) (fun H' z => ?_)
  · obtain ⟨n', acc, xs, _, k1, _⟩ := z
    exact hG H' (kb k1)
  · obtain ⟨n', acc, xs, S', k1, hd, rl, hl, q'⟩ := z
    obtain ⟨k2, d, ed, rd⟩ := hY i H' x H2 n' _ hi (kb k1) S'.st (hFar eW) y
    rw [drop_get ed] at q'
    have S3 := S'.step (KpS.all k2.1) (S'.st.kp k2)
    refine fg aS _ H0 _ H2 _ n' d x _ _ S3 rd q' fun σ3 s3 S4 l3 o3 a3 q3 => ?_
    refine ⟨?_, ft aS _ H0 σ3 H2 s3 n' (fun _ _ => False) _ S4 (LF _) (mnt _ _ _ _ _ (fun c n2 q4 H3 k3 st3 => ?_) q3)⟩
    · have e1 := wipe_eq (vs := own.map (·.2)) l3 fun j hj => o3 j fun z => hj (hws j z)
      rw [e1]
      exact wipe_eq (wipe_length _ _) fun j hj => wipe_out hj
    · have kk : KpS aS H' H3 := (KpS.all k2.1).trans k3
      cases c with
      | true =>
        rw [if_pos rfl] at q4 ⊢
        refine fe aS _ H0 σ3 H3 s3 n2 (fun _ _ => False) _ (S4.step k3 st3) (LF _) (mne _ _ _ _ _ (fun y n3 q5 v H4 k4 st4 r4 => ?_) q4)
        have k5 := kk.trans k4
        refine ⟨xs, k5.lst hd hDs, ?_, n3, acc ++ [y], xs ++ [v], ?_, KpS.upd2 (k1.trans k5) hD, upd_same, ?_, by rw [List.length_append]; exact Nat.succ_le_succ hl, q5⟩
        · rw [rl.length]
          exact Nat.lt_of_le_of_lt hl (lim_lt (Nat.lt_of_lt_of_le hi hlim))
        · exact (S'.step k5 st4).poke (.inr rfl) hDs (k5.lst hd hDs) hD0 (fun _ z => nomatch z) (fun _ _ z => nomatch z)
        · have e2 : AV aS (fun b => A1 b ∨ b = Dn) OB σ3 = AV aS (fun b => A1 b ∨ b = Dn) OB σ := a3.trans eW
          rw [e2] at r4
          exact RepL.mono (sub_poke (A := AV aS (fun b => A1 b ∨ b = Dn) OB σ) (.inl (.inr rfl)) (k5.lst hd hDs) (fun _ z => nomatch z)) _ _ ((rl.kp k5 S'.st AV.st).app (RepL.cons r4 RepL.nil))
      | false =>
        rw [if_neg (by decide)] at q4 ⊢
        exact ⟨n2, acc, xs, S'.step kk st3, k1.trans kk, kk.lst hd hDs, rl.kp kk S'.st AV.st, Nat.le_succ_of_le hl, q4⟩
  · obtain ⟨n', acc, xs, S', k1, hd, rl, hl, q'⟩ := z
    rw [List.drop_length] at q'
    refine q' Dn H' hDH (kp.trans k1) S'.st ⟨xs, hd, ?_⟩
    rw [AV.plus, eA] at rl
    exact rl
theorem vf_lc {own : List (Str × Nat)} {ws : List Nat} (hc : X.calm = true) (hN : X.N.Nodup) (hi : VI X E O OB hid tg iter mi) (ok : BlkOk X.N X.env.scope scope own) (hown : ∀ j ∈ own.map (·.2), j ∉ OB) (hws : ∀ j ∈ ws, j ∈ own.map (·.2))
    (hg : ∀ c : Bk, VG (Cx.bk X scope c) OB ws tg g) (ht : ∀ c : Bk, VTs (Cx.bk X scope c) EF OB ifs mt) (he : ∀ c : Bk, VE (Cx.bk X scope c) EF OB e me) (hs : ∀ x, foldedSetIterable iter X.env x = pure x := by intro _; rfl) :
    VF X E O (.ListComp e [⟨tg, iter, ifs, 0⟩] scope pos) (eLc mi (own.map (·.2) ++ hid) g mt me) := by
  obtain ⟨mn, wi, gt, tt, te, pi, pg, pt, pe, f⟩ := vf_lcAt hc hN hi ok hown hws hg ht he
  refine ⟨mn, _, pe_lc hc hN pi ok (fun s H C cl fp => pg (s, H, C, cl, fp)) (fun s H C cl fp => pt (s, H, C, cl, fp)) (fun s H C cl fp => pe (s, H, C, cl, fp)) hs, fun aS A0 H0 σ H s n xq Q S L hm => f aS A0 H0 σ H s n xq Q S L hm⟩
/-- name = [..]: the name owns the new list -/
theorem vs_setLc {own : List (Str × Nat)} {ws : List Nat} {i : Nat} {y : Str} {py spos : Pos} {OL : List Nat} (hiO : i ∉ O) (hi0 : i ≠ 0) (hc : X.calm = true) (hN : X.N.Nodup) (hy : X.N[i]? = some y) (hyl : X.env.scope.names.lookup y = some .local)
    (hsw : swapsWith (.ListComp e [⟨tg, iter, ifs, 0⟩] scope pos) (some (.Name y py)) spos.line X.env = pure true) (hi : VI X E O OB hid tg iter mi) (ok : BlkOk X.N X.env.scope scope own) (hown : ∀ j ∈ own.map (·.2), j ∉ OB) (hws : ∀ j ∈ ws, j ∈ own.map (·.2))
    (hg : ∀ c : Bk, VG (Cx.bk X scope c) OB ws tg g) (ht : ∀ c : Bk, VTs (Cx.bk X scope c) EF OB ifs mt) (he : ∀ c : Bk, VE (Cx.bk X scope c) EF OB e me) (hs : ∀ x, foldedSetIterable iter X.env x = pure x := by intro _; rfl) :
    VS X E O (i :: O) OL (.Assign [.Name y py] (.ListComp e [⟨tg, iter, ifs, 0⟩] scope pos) spos) (fun xq de s n => i < s.length ∧ sSet i (eLc mi (own.map (·.2) ++ hid) g mt me) xq de s n) := by
  obtain ⟨mn, wi, gt, tt, te, pi, pg, pt, pe, f⟩ := vf_lcAt hc hN hi ok hown hws hg ht he
  refine ⟨_, ps_setLc hc hN hy hyl hsw pi ok (fun s H C cl fp => pg (s, H, C, cl, fp)) (fun s H C cl fp => pt (s, H, C, cl, fp)) (fun s H C cl fp => pe (s, H, C, cl, fp)) hs, fun aS A0 H0 σ H s n xq de De S L k h => ?_⟩
  exact f aS A0 H0 σ H s n xq _ S L (mn _ _ _ _ _ (fun d n' q a H' ha kp st o => k.nx _ H' _ n' (S.own hiO hi0 h.1 ha kp st o) q) h.2)
end
end DL
namespace DL
open PySem PySem.Spec PyProof.Rows L2
variable [TabC]
/-! ### what leaves by an error -/
/-- what is raised with the wish E is taken -/
def TK (X : Cx) (E : XK) : Prop := Takes X (fun c d _ H => E c d H)
/-- locks (none of them the entry's) are let go -/
inductive Unl (H0 : Hp) : Hp → Hp → Prop
  | refl (H : Hp) : Unl H0 H H
  | step {H H2 : Hp} {b : Addr} {od : Obj} {u : HO} : H b = some (.frz od u) → (∀ o' u', H0 b ≠ some (.frz o' u')) → Unl H0 (upd H b u) H2 → Unl H0 H H2
def EU (H0 : Hp) (E : XK) : XK := fun c d H => ∃ H2, Unl H0 H H2 ∧ E c d H2
def UC (X : Cx) (E : XK) : Prop := ∀ (c : Value) (d : Option Addr) (H : Hp) (b : Addr) (od : Obj) (u : HO), H b = some (.frz od u) → (∀ o' u', X.H_0 b ≠ some (.frz o' u')) → E c d (upd H b u) → E c d H

section
variable {X : Cx} {E : XK} {K : PySem.W.Frag} {aS : Addr} {A0 : A0T} {O : List Nat} {σ : L2.St} {H H0 : Hp} {s : Ev} {n : Nat} {xq : XQ}
theorem uc_eu : UC X (EU X.H_0 E) := fun c d H b od u h hn ⟨H2, un, e⟩ => ⟨H2, .step h hn un, e⟩
theorem tk_f : TK X EF := fun u s' ⟨_, _, _, _, _, _, _, _, _, _, _, _, _, _, _, _, w⟩ => w.elim
theorem inv_unl {pins : List (Addr × Obj)} {s : Shared} {H2 : Hp} (un : Unl X.H_0 H H2) : Inv X pins σ H s → Inv X pins σ H2 s := by
  induction un with
  | refl => exact fun I => I
  | step h hn _ ih => exact fun I => ih (I.unlock h hn)
theorem none_unl {H2 : Hp} {a : Addr} (un : Unl H0 H H2) : H a = none → H2 a = none := by
  induction un with
  | refl => exact fun z => z
  | @step H H2 b od u h hn _ ih => exact fun z => ih (by rw [upd_ne (fun e => by rw [e, h] at z; cases z)]; exact z)
theorem tk_eu (t : TK X E) : TK X (EU X.H_0 E) := fun u s' ⟨a, B, sI, pins, σ, H, cls, d, e, I, nb, up, sky, na, os, ag, H2, un, w⟩ =>
  t u s' ⟨a, B, sI, pins, σ, H2, cls, d, e, inv_unl un I, nb, up, sky, none_unl un na, os, ag, w⟩
theorem LX.eu {A : AS} (L : LX K E aS A H xq) : LX K (EU H0 E) aS A H xq := fun C fs n d H' k st r q => ⟨H', .refl _, L C fs n d H' k st r q⟩
/-- what a callee raises -/
theorem LX.call (S : SR K aS O A0 H0 σ H s n) (L : LX K E aS A0 H0 xq) : LX K E aS (AV aS A0 O σ) H xq := fun C fs n' d H' k st r q => by
  refine L C fs n' d H' (S.fr.trans k) st ?_ q
  cases d with
  | none => exact r
  | some a =>
    obtain ⟨ys, h1, h2, h3⟩ := r
    refine ⟨ys, ?_, h2, RepF.mono (sub_le fun b z => ?_) _ _ h3⟩
    · cases e : H0 a with
      | none => rfl
      | some u =>
        by_cases ha : a = aS
        · obtain ⟨xs, q⟩ := S.st.lst
          rw [ha, q] at h1
          cases h1
        · exact (KpS.gone S.fr h1 e (ha)).elim
    · rcases z with z | z | ⟨j, hj, _⟩
      · exact .inl (.inl z)
      · exact .inr (.inl z)
      · cases hj
end
theorem FnOk.loud {P : Program} {w : World} {K : PySem.W.Frag} {mg : Str → Option Value} {base : Heap} {k : Nat} {f : Addr} {fd : FuncData} {ps : List Str} {sp : Sp} (F : FnOk P w K mg base CX0 k f fd ps sp) : FnOk P w K mg base (CX P w) k f fd ps sp :=
  ⟨F.len, fun A outer s H args us vs Q E hr e0 hb r h => codeAny_mono (F.run A outer s H args us vs Q E hr e0 hb r h) fun r s' q => by
    cases r with
    | ok fl => cases fl <;> exact q
    | error e => exact False.elim q⟩
end DL
namespace DL
open PySem PySem.Spec PyProof.Rows L2
variable [TabC]
/-! ### defs -/
structure FSp where
  run : List D → Nat → (D → Nat → Prop) → XQ → Prop
  mn : ∀ ds n Q Q' xq, (∀ d n', Q d n' → Q' d n') → run ds n Q xq → run ds n Q' xq
theorem AV.of {aS : Addr} {A : AS} (h : A aS) : AV aS A [] [] = A := by
  funext b
  refine propext ⟨fun z => ?_, fun z => .inl z⟩
  rcases z with z | z | ⟨j, hj, _⟩
  · exact z
  · exact z ▸ h
  · cases hj
/-- the promise of a def, over values and heaps -/
def lift (K : PySem.W.Frag) (len : Nat) (sp : FSp) : Sp := fun vs H Q E => ∃ (aS : Addr) (A0 : AS) (ds : List D) (n : Nat) (xq : XQ), ds.length = len ∧ RepL K aS H (AV aS A0 [] []) ds vs ∧ StA K aS H n ∧ (∀ a, A0 a → ∃ u, H a = some u) ∧ LX K E aS A0 H xq ∧
  sp.run ds n (fun d n' => ∀ v H', KpS aS H H' → StA K aS H' n' → Rep K aS H' (AV aS A0 [] []) d v → Q v H') xq
def startD (N : List Str) (ds : List D) : Ev := ds.map some ++ List.replicate (N.length - ds.length) none
theorem start_get {α : Type} {l : List α} {k i : Nat} {x : α} (h : (l.map some ++ List.replicate k none)[i]? = some (some x)) : l[i]? = some x := by
  by_cases hi : i < l.length
  · rw [List.getElem?_append_left (by simpa using hi), List.getElem?_map] at h
    cases e : l[i]? with
    | none => rw [e] at h; cases h
    | some y => rw [e] at h; cases h; rfl
  · rw [List.getElem?_append_right (by simpa using hi), List.getElem?_replicate] at h
    split at h <;> cases h
theorem get_start {α : Type} {l : List α} {k i : Nat} {x : α} (h : l[i]? = some x) : (l.map some ++ List.replicate k none)[i]? = some (some x) := by
  have hi := (List.getElem?_eq_some_iff.mp h).1
  rw [List.getElem?_append_left (by simpa using hi), List.getElem?_map, h]
  rfl
section
variable {P : Program} {w : World} {K : PySem.W.Frag} {mg : Str → Option Value} {base : Heap} {x qual : Str} {params : Arguments} {body : List Stmt} {scope : Scope} {dvs : List V} {kws : List (Str × V)} {f : Addr} {fd : FuncData}
theorem SR.start {aS : Addr} {A0 : AS} {H : Hp} {N : List Str} {ds : List D} {vs : List V} {n : Nat} (r : RepL K aS H (AV aS A0 [] []) ds vs) (st : StA K aS H n) (av : ∀ a, A0 a → ∃ u, H a = some u) : SR K aS [] ⟨A0, none⟩ H (L2.start N vs) H (startD N ds) n := by
  have eA : AV aS A0 [] (L2.start N vs) = AV aS A0 [] [] := by
    funext b
    refine propext ⟨fun z => ?_, fun z => av_nil b z⟩
    rcases z with z | z | ⟨j, hj, _⟩
    · exact .inl z
    · exact .inr (.inl z)
    · cases hj
  refine ⟨?_, fun i d e _ => ?_, (fun i hi => nomatch hi), (fun i j b hi => nomatch hi), KpS.refl, st, av, (fun hi => nomatch hi)⟩
  · unfold L2.start startD
    rw [List.length_append, List.length_append, List.length_map, List.length_map, List.length_replicate, List.length_replicate, r.length]
  · obtain ⟨v, ev, rv⟩ := r.get (start_get e)
    rw [eA]
    exact ⟨v, get_start ev, rv⟩
theorem dfn {N ps : List Str} {k : Nat} {sp : FSp} {m : SM} {O' : List Nat} (F : FunD K x qual params body scope dvs kws f fd) (Sc : FnScope N ps scope)
    (hb : ∀ (cdv : Value) (A : Around) (outer : List Env) (s : Shared) (H : Hp) (E : XK), Room k (A.deeper (envOfC qual scope s.heap.objs.size f cdv)) → VSs (cxOf (CX P w) P w K mg base N qual scope f cdv A outer s H E) (EU H E) [] O' [] body m)
    (hm : ∀ ds n Q xq, ds.length = ps.length → sp.run ds n Q xq → m xq { nx := fun _ n' => Q .non n', rt := Q } (startD N ds) n) : FnOk P w K mg base (CX P w) (k + 1) f fd ps (lift K ps.length sp) := by
  refine F.ok Sc (fun vs H Q E h => ?_) (fun cdv A outer s H vs Q E hr h => ?_)
  · obtain ⟨aS, A0, ds, n, xq, hl, r, _⟩ := h
    rw [r.length, hl]
  · obtain ⟨aS, A0, ds, n, xq, hl, r, st, av, L, q⟩ := h
    obtain ⟨t, p, ft⟩ := hb cdv A outer s H E hr
    refine ⟨t, p, ft aS ⟨A0, none⟩ H _ H _ n xq _ _ (SR.start r st av) L.eu ?_ (hm ds n _ xq hl q)⟩
    refine ⟨fun σ' H' s' n' S' q' => q' .non H' S'.fr S'.st rep_non, fun v H' d n' kp st' r' q' => q' v H' kp st' r', fun _ _ _ _ _ z => z.elim, fun _ _ _ _ _ z => z.elim⟩
end
/-! ### calls -/
def eCall (len : Nat) (sp : FSp) (dds : List D) (m : EM (List D)) : EM D := fun xq s n Q => m xq s n fun ds n1 => (ds ++ dds).length = len ∧ sp.run (ds ++ dds) n1 Q xq
section
variable {X : Cx} {E : XK} {O : List Nat} {e o : Expr} {es : List Expr} {mo : EM D} {ml : EM (List D)} {pos p : Pos} {x : Str} {f : Addr} {C : Str} {fd : FuncData} {ps : List Str} {k : Nat} {sp : FSp} {dds : List D} {dvs : List V} {us : List Value}
theorem mn_call {len : Nat} (h : Mn ml) : Mn (eCall len sp dds ml) := fun xq s n Q Q' hq w => h _ _ _ _ _ (fun ds n1 w => ⟨w.1, sp.mn _ _ _ _ _ hq w.2⟩) w
abbrev ET : XK := fun _ _ _ => True
theorem passT : Passes CX0 X ET := fun _ _ _ _ _ _ _ h => h.elim
/-- the promise's question, from the caller's state -/
theorem SR.call {K : PySem.W.Frag} {aS : Addr} {A0 : A0T} {H0 H : Hp} {σ : L2.St} {s : Ev} {n len : Nat} {ds : List D} {vs : List V} {xq : XQ} {Q : VK} (S : SR K aS O A0 H0 σ H s n) (L : LX K E aS A0 H0 xq) (hl : ds.length = len) (r : RepL K aS H (AV aS A0 O σ) ds vs)
    (q : sp.run ds n (fun d n' => ∀ v H', KpS aS H H' → StA K aS H' n' → Rep K aS H' (AV aS A0 O σ) d v → Q v H') xq) : lift K len sp vs H Q E := by
  have eA : AV aS (AV aS A0 O σ) [] [] = AV aS A0 O σ := AV.of AV.st
  refine ⟨aS, AV aS A0 O σ, ds, n, xq, hl, by rw [eA]; exact r, S.st, S.cn.dom, L.call S, ?_⟩
  rw [eA]
  exact q
theorem ve_call (tk : TK X E) (F : FnOk X.prog X.w X.K X.mg X.base (CX X.prog X.w) k f fd ps (lift X.K ps.length sp)) (hr : Room k X.A) (hg : Gl X x) (hm : X.mg x = some (.ref f)) (hk : PySem.W.keepIn X.K (.ref f) = true) (hb : Binds X.K fd ps us) (hd : Vals dvs us)
    (hdd : ∀ aS H A, RepL X.K aS H A dds dvs) (ha : VA Rep X E O (e :: es) ml) (hdb : (x == ("__debug__" : Str)) = false := by decide)
    (he : starEach (e :: es) X.env = (false, eval e X.env) :: starEach es X.env := by rfl) (hpl : (backTo pos (starEach es X.env)).any (·.1) = false := by rfl) : VE X E O (.Call (.Name x p) (e :: es) [] pos) (eCall ps.length sp dds ml) := by
  obtain ⟨mn, t, pa, ft⟩ := ha
  refine ⟨mn_call mn, _, pe_call F hr hg hm hk  hb hd (passes_call tk fun _ _ _ _ h => h) pa hdb he hpl, fun aS A0 H0 σ H s n xq Q S L hm => ?_⟩
  refine ft aS A0 H0 σ H s n xq _ S L (mn _ _ _ _ _ (fun ds n1 q vs H1 k1 st1 r1 => ?_) hm)
  exact (S.step k1 st1).call L q.1 ((RL.repL r1).app (hdd aS H1 _)) (sp.mn _ _ _ _ _ (fun d n' w v H' kp st r => w v H' (k1.trans kp) st r) q.2)
/-- a method of an instance of C -/
def eMeth (C : Str) (mn : Str) (len : Nat) (sp : FSp) (dds : List D) (mo : EM D) (m : EM (List D)) : EM D := fun xq s n Q => mo xq s n fun d n1 => ∃ fs, d = .obj C fs ∧ fs.lookup mn = none ∧ m xq s n1 fun ds n2 => (d :: (ds ++ dds)).length = len ∧ sp.run (d :: (ds ++ dds)) n2 Q xq
theorem repF_look {K : PySem.W.Frag} {aS : Addr} {H : Hp} {A : AS} (g : Str) : ∀ {fs : List (Str × D)} {ys : List (Str × V)}, RepF K aS H A fs ys → (fs.lookup g = none ∧ ys.lookup g = none) ∨ ∃ d v, fs.lookup g = some d ∧ ys.lookup g = some v ∧ Rep K aS H A d v
  | [], ys, h => by
    rw [RepF] at h
    subst h
    exact .inl ⟨rfl, rfl⟩
  | (k, d) :: fs, ys, h => by
    rw [RepF] at h
    obtain ⟨v, vr, e, r, q⟩ := h
    subst e
    rw [List.lookup_cons, List.lookup_cons]
    cases hb : g == k with
    | true => exact .inr ⟨d, v, rfl, rfl, r⟩
    | false => exact repF_look g q
theorem mn_meth {mn : Str} {len : Nat} (h1 : Mn mo) (h : Mn ml) : Mn (eMeth C mn len sp dds mo ml) := fun xq s n Q Q' hq w => h1 _ _ _ _ _ (fun d n1 ⟨fs, e1, e2, w⟩ => ⟨fs, e1, e2, h _ _ _ _ _ (fun ds n2 w => ⟨w.1, sp.mn _ _ _ _ _ hq w.2⟩) w⟩) w
/-! ### fields -/
def eFld (C : Str) (g : Str) (m : EM D) : EM D := fun xq s n Q => m xq s n fun d n1 => ∃ fs v, d = .obj C fs ∧ fs.lookup g = some v ∧ Q v n1
theorem ve_fld {g : Str} (cl : Cls X.K (He.ga X.K C)) (na : NoAttr X.K (He.ga X.K C) g) (h : VB X E O o mo) (hb : attributeBase o g X.env (eval o X.env) = eval o X.env := by rfl) : VE X E O (.Attribute o g pos) (eFld C g mo) := by
  obtain ⟨mn, t, p, f⟩ := h
  refine ⟨fun xq s n Q Q' hq w => mn _ _ _ _ _ (fun d n1 ⟨fs, v, e1, e2, q⟩ => ⟨fs, v, e1, e2, hq _ _ q⟩) w, _, pe_fld p hb, fun aS A0 H0 σ H s n xq Q S L hm => ?_⟩
  refine f aS A0 H0 σ H s n xq _ S L (mn _ _ _ _ _ (fun d n1 q v H1 k1 st1 r1 => ?_) hm)
  obtain ⟨fs, v', ed, hl, q⟩ := q
  subst ed
  obtain ⟨a, dx, ys, ev, na', hq, rf⟩ := r1
  rcases repF_look g rf with z | ⟨d, u, z1, z2, z3⟩
  · rw [hl] at z; cases z.1
  · rw [hl] at z1
    cases z1
    exact ⟨a, He.ga X.K C, dx, ys, u, ev, hq, cl, na, z2, q u H1 k1 st1 z3⟩
def putFD (f : Str) (v : D) : List (Str × D) → List (Str × D)
  | [] => [(f, v)]
  | (g, x) :: r => if g = f then (g, v) :: r else (g, x) :: putFD f v r
theorem repF_put {K : PySem.W.Frag} {aS : Addr} {H : Hp} {A : AS} {g : Str} {d : D} {v : V} (r : Rep K aS H A d v) : ∀ {fs : List (Str × D)} {ys : List (Str × V)}, RepF K aS H A fs ys → RepF K aS H A (putFD g d fs) (putF g v ys)
  | [], ys, h => by
    rw [RepF] at h
    subst h
    rw [putFD, putF, RepF]
    exact ⟨v, [], rfl, r, by rw [RepF]⟩
  | (k, d') :: fs, ys, h => by
    rw [RepF] at h
    obtain ⟨v', vr, e, r', q⟩ := h
    subst e
    rw [putFD, putF]
    split
    · rw [RepF]
      exact ⟨v, vr, rfl, r, q⟩
    · rw [RepF]
      exact ⟨v', _, rfl, r', repF_put r q⟩
end
/-! ### making an instance -/
section
variable {P : Program} {w : World} {K : PySem.W.Frag} {mg : Str → Option Value} {base : Heap} {x qual : Str} {params : Arguments} {body : List Stmt} {scope : Scope} {dvs : List V} {kws : List (Str × V)} {f : Addr} {C : Str} {fd : FuncData}
theorem SR.startI {aS a dx : Addr} {A0 : AS} {H : Hp} {N : List Str} {ds : List D} {ws : List V} {n : Nat} (hx : H a = some (.ins (He.ga K C) dx [])) (na : ¬ A0 a) (ns : a ≠ aS) (r : RepL K aS H (fun b => AV aS A0 [] [] b ∨ b = a) ds ws) (st : StA K aS H n) (av : ∀ a, A0 a → ∃ u, H a = some u) :
    SR K aS [0] ⟨A0, some a⟩ (fun b => if b = a then none else H b) (L2.start N (.ref a :: ws)) H (startD N (.obj C [] :: ds)) n ∧ AV aS A0 [0] (L2.start N (.ref a :: ws)) = fun b => AV aS A0 [] [] b ∨ b = a := by
  have e0 : (L2.start N (.ref a :: ws))[0]? = some (some (.ref a)) := rfl
  have eA : AV aS A0 [0] (L2.start N (.ref a :: ws)) = fun b => AV aS A0 [] [] b ∨ b = a := by
    funext b
    refine propext ⟨fun z => ?_, fun z => ?_⟩
    · rcases z with z | z | ⟨j, hj, e⟩
      · exact .inl (.inl z)
      · exact .inl (.inr (.inl z))
      · have hj : j = 0 := by simpa using hj
        subst hj
        rw [e0] at e
        cases e
        exact .inr rfl
    · rcases z with z | z
      · exact av_nil b z
      · exact .inr (.inr ⟨0, by simp, by rw [z]; exact e0⟩)
  refine ⟨⟨?_, fun i d e hi => ?_, fun i hi => ?_, fun i j b hi hj _ _ => ?_, fun b u e _ => ?_, st, av, fun _ b e => ?_⟩, eA⟩
  · unfold L2.start startD
    rw [List.length_append, List.length_append, List.length_map, List.length_map, List.length_replicate, List.length_replicate, List.length_cons, List.length_cons, r.length]
  · rw [eA]
    cases i with
    | zero => exact (hi (by simp)).elim
    | succ i =>
      have e2 := start_get e
      obtain ⟨v, ev, rv⟩ := r.get (i := i) (d := d) (by simpa using e2)
      exact ⟨v, get_start (by simpa using ev), rv⟩
  · have hi : i = 0 := by simpa using hi
    subst hi
    refine ⟨.obj C [], a, rfl, rfl, if_pos rfl, na, ns, dx, [], hx, by rw [RepF]⟩
  · have hi : i = 0 := by simpa using hi
    have hj : j = 0 := by simpa using hj
    rw [hi, hj]
  · by_cases z : b = a
    · rw [if_pos z] at e; cases e
    · rw [if_neg z] at e; exact .of e
  · cases e
    rfl
end
section
variable {X : Cx} {E : XK} {O : List Nat} {e : Expr} {es : List Expr} {ml : EM (List D)} {pos p : Pos} {x : Str} {f : Addr} {C : Str} {fd : FuncData} {ps : List Str} {k : Nat} {sp : FSp} {dds : List D} {dvs : List V} {us : List Value}
end
end DL
namespace DL
open PySem PySem.Spec PyProof.Rows L2
variable [TabC]
section
variable {K : PySem.W.Frag} {aS a p : Addr} {H H' H0 : Hp} {A0 : A0T} {O : List Nat} {σ : L2.St} {s : Ev} {n n' i : Nat} {d : D}
theorem AV.own (hi : i ∉ O) (hl : i < σ.length) : AV aS A0 (i :: O) (σ.set i (some (.ref a))) = AV aS (fun b => A0 b ∨ b = a) O σ := by
  rw [AV.plus]
  funext b
  refine propext ⟨fun z => ?_, fun z => ?_⟩
  · rcases z with z | z | ⟨j, hj, e⟩
    · exact .inl (.inl z)
    · exact .inl (.inr (.inl z))
    · by_cases hji : j = i
      · subst hji
        rw [List.getElem?_set_self hl] at e
        cases e
        exact .inr rfl
      · rw [set_other hji] at e
        exact .inl (.inr (.inr ⟨j, (List.mem_cons.mp hj).resolve_left hji, e⟩))
  · rcases z with (z | z | ⟨j, hj, e⟩) | z
    · exact .inl z
    · exact .inr (.inl z)
    · refine .inr (.inr ⟨j, List.mem_cons_of_mem _ hj, ?_⟩)
      rw [set_other (show j ≠ i from fun z => hi (z ▸ hj))]
      exact e
    · refine .inr (.inr ⟨i, List.mem_cons_self, ?_⟩)
      rw [z]
      exact List.getElem?_set_self hl
theorem SR.sub (S : SR K aS O A0 H0 σ H s n) (ha : H a = none) (k : KpS aS H H') : Sub K H H' (AV aS A0 O σ) (fun b => AV aS A0 O σ b ∨ b = a) := by
  obtain ⟨ys, hs⟩ := S.st.lst
  have ne : ∀ b, ¬ AV aS A0 O σ b → b ≠ aS := fun b h e => h (.inr (.inl e))
  refine ⟨fun b xs h q => ⟨fun z => z.elim h (ne_of_none q ha), k _ _ q (ne b h)⟩, fun b xs q => TpA.kp k hs q, fun b ys h q => ⟨fun z => z.elim h ?_, Rd.kp k (ne b h) q⟩, fun b ys h q => ⟨fun z => z.elim h ?_, RdM.kp k (ne b h) q⟩, fun b C dx ys h q => ⟨fun z => z.elim h (ne_of_none q ha), k _ _ q (ne b h)⟩, fun b u hu h q => ⟨fun z => z.elim h (ne_of_none q ha), k.xo hu q (ne b h)⟩⟩
  all_goals
    rcases q with q | ⟨_, q⟩
    · exact ne_of_none q ha
    · exact ne_of_none q ha
/-- behind an expression that made p, p kept for oneself -/
theorem SR.stepA (S : SR K aS O A0 H0 σ H s n) (k : KpS aS H H') (t : StA K aS H' n') (hp : H p = none) (ho : ∃ o, H' p = some o) : SR K aS O ⟨fun b => A0 b ∨ b = p, A0.z⟩ H0 σ H' s n' := by
  refine ⟨S.len, fun j d e hj => ?_, fun j hj => ?_, S.ds, S.fr.trans k, t, fun b hb => ?_, S.pn⟩
  · rw [AV.plus]
    obtain ⟨v, ev, r⟩ := S.sh j d e hj
    exact ⟨v, ev, Rep.mono (S.sub hp k) _ _ r⟩
  · rw [AV.plus]
    obtain ⟨d, b, e1, e2, e3, e4, e5, e6⟩ := S.ow j hj
    refine ⟨d, b, e1, e2, e3, fun z => z.elim e4 fun z => S.new hp (.inr (.inr ⟨j, hj, z ▸ e2⟩)), e5, ?_⟩
    cases d with
    | lst ds => obtain ⟨xs, e, q⟩ := e6; exact ⟨xs, k _ _ e e5, RepL.mono (S.sub hp k) _ _ q⟩
    | dic ds => obtain ⟨xs, e, q⟩ := e6; exact ⟨xs, k _ _ e e5, RepK.mono (S.sub hp k) _ _ q⟩
    | dmx ds => obtain ⟨xs, e, q⟩ := e6; exact ⟨xs, k _ _ e e5, RepP.mono (S.sub hp k) _ _ q⟩
    | obj C ds => obtain ⟨dx, xs, e, q⟩ := e6; exact ⟨dx, xs, k _ _ e e5, RepF.mono (S.sub hp k) _ _ q⟩
    | _ => exact e6.elim
  · rcases hb with hb | hb
    · exact (S.step k t).av b hb
    · exact hb ▸ ho
theorem Own.there {A : AS} (h : Own K aS H A a d) : ∃ o, H a = some o := by
  cases d with
  | lst ds => obtain ⟨xs, e, q⟩ := h; exact ⟨_, e⟩
  | dic ds => obtain ⟨xs, e, q⟩ := h; exact ⟨_, e⟩
  | dmx ds => obtain ⟨xs, e, q⟩ := h; exact ⟨_, e⟩
  | obj C ds => obtain ⟨dx, xs, e, q⟩ := h; exact ⟨_, e⟩
  | _ => exact h.elim
end
section
variable {X : Cx} {E : XK} {O OL : List Nat} {a b c e : Expr} {ma mb mc m : EM D} {pos : Pos} {i j : Nat} {x y : Str}
/-! two targets -/
def sPar (i j : Nat) (ma mb : EM D) : SM := fun xq de s n => ma xq s n fun d n1 => mb xq s n1 fun d' n2 => de.nx ((s.set i (some d)).set j (some d')) n2
theorem vs_par {px py pt : Pos} {kt k2 pt2} (hi : i ∉ O) (hj : j ∉ O) (hc : X.calm = true) (hN : X.N.Nodup) (hNi : X.N[i]? = some x) (hNj : X.N[j]? = some y) (hij : i ≠ j) (hx : X.env.scope.names.lookup x = some .local) (hy : X.env.scope.names.lookup y = some .local)
    (ha : VE X E O a ma) (hb : VE X E O b mb) (hw : swappedStores [.Tuple [.Name x px, .Name y py] kt pt] (.Tuple [a, b] k2 pt2) X.env = pure (some [x, y]))
    (hs : swapsWithSole [.Tuple [.Name x px, .Name y py] kt pt] (.Tuple [a, b] k2 pt2) pos.line X.env = pure false := by rfl) (hs1 : starEach [a, b] X.env = (false, eval a X.env) :: starEach [b] X.env := by rfl) (hs2 : starEach [b] X.env = (false, eval b X.env) :: starEach [] X.env := by rfl) :
    VS X E O O OL (.Assign [.Tuple [.Name x px, .Name y py] kt pt] (.Tuple [a, b] k2 pt2) pos) (sPar i j ma mb) := by
  obtain ⟨mna, ta, pa, fa⟩ := ha
  obtain ⟨mnb, tb, pb, fb⟩ := hb
  refine ⟨_, ps_par hc hN hNi hNj hij hx hy (pa_cons pa (pa_cons pb pa_nil hs2) hs1) hw hs, fun aS A0 H0 σ H s n xq de De S L k h => ?_⟩
  refine fa aS A0 H0 σ H s n xq _ S L (mna _ _ _ _ _ (fun d1 n1 q v1 H1 k1 st1 r1 => ?_) h)
  refine fb aS A0 H0 σ H1 s n1 xq _ (S.step k1 st1) L (mnb _ _ _ _ _ (fun d2 n2 q2 v2 H2 k2 st2 r2 => ?_) q)
  have S1 := (S.step (k1.trans k2) st2).set hi (r1.kp k2 st1 AV.st)
  exact ⟨v1, v2, rfl, k.nx _ _ _ _ (S1.set hj (by rw [AV.set hi]; exact r2)) q2⟩
theorem vs_parFF {px py pt : Pos} {kt k2 pt2} (hi : i ∉ O) (hj : j ∉ O) (hi0 : i ≠ 0) (hj0 : j ≠ 0) (hc : X.calm = true) (hN : X.N.Nodup) (hNi : X.N[i]? = some x) (hNj : X.N[j]? = some y) (hij : i ≠ j) (hx : X.env.scope.names.lookup x = some .local) (hy : X.env.scope.names.lookup y = some .local)
    (ha : VF X E O a ma) (hb : VF X E O b mb) (hw : swappedStores [.Tuple [.Name x px, .Name y py] kt pt] (.Tuple [a, b] k2 pt2) X.env = pure (some [x, y]))
    (hs : swapsWithSole [.Tuple [.Name x px, .Name y py] kt pt] (.Tuple [a, b] k2 pt2) pos.line X.env = pure false := by rfl) (hs1 : starEach [a, b] X.env = (false, eval a X.env) :: starEach [b] X.env := by rfl) (hs2 : starEach [b] X.env = (false, eval b X.env) :: starEach [] X.env := by rfl) :
    VS X E O (j :: i :: O) OL (.Assign [.Tuple [.Name x px, .Name y py] kt pt] (.Tuple [a, b] k2 pt2) pos) (fun xq de s n => i < s.length ∧ j < s.length ∧ sPar i j ma mb (fun _ _ => False) de s n) := by
  obtain ⟨mna, ta, pa, fa⟩ := ha
  obtain ⟨mnb, tb, pb, fb⟩ := hb
  refine ⟨_, ps_par hc hN hNi hNj hij hx hy (pa_cons pa (pa_cons pb pa_nil hs2) hs1) hw hs, fun aS A0 H0 σ H s n xq de De S L k h => ?_⟩
  obtain ⟨hl1, hl2, h⟩ := h
  have LF : ∀ A1, LX X.K E aS A1 H0 (fun _ _ => False) := fun _ _ _ _ _ _ _ _ _ z => z.elim
  refine fa aS A0 H0 σ H s n _ _ S (LF _) (mna _ _ _ _ _ (fun d1 n1 q p1 H1 z1 k1 st1 o1 => ?_) h)
  have S1 := S.stepA k1 st1 z1 o1.there
  refine fb aS _ H0 σ H1 s n1 _ _ S1 (LF _) (mnb _ _ _ _ _ (fun d2 n2 q2 p2 H2 z2 k2 st2 o2 => ?_) q)
  have Sa := S.own hi hi0 hl1 z1 k1 st1 o1
  have hlσ : i < σ.length := by rw [S.len]; exact hl1
  refine ⟨_, _, rfl, k.nx _ _ _ _ (Sa.own (fun z => (List.mem_cons.mp z).elim (fun z => hij z.symm) hj) hj0 (by rw [List.length_set]; exact hl2) z2 k2 st2 ?_) q2⟩
  rw [AV.own hi hlσ]
  exact o2
/-! f.append(xs.pop(e)) -/
theorem RepL.erase {K : PySem.W.Frag} {aS : Addr} {H : Hp} {A : AS} : ∀ {ds : List D} {vs : List V} (k : Nat), RepL K aS H A ds vs → RepL K aS H A (ds.eraseIdx k) (vs.eraseIdx k)
  | [], _, _, h => by rw [RepL] at h; rw [h]; exact RepL.nil
  | d :: ds, vs, 0, h => by
    rw [RepL] at h
    obtain ⟨v, vr, e, r, q⟩ := h
    rw [e]
    exact q
  | d :: ds, vs, k + 1, h => by
    rw [RepL] at h
    obtain ⟨v, vr, e, r, q⟩ := h
    rw [e]
    exact RepL.cons r (RepL.erase k q)
theorem seq_nat {k n : Nat} (h : k < n) : seqIndex? (k : Int) n = some k := by
  have e : ixN n (k : Int) = some k := by
    unfold ixN
    rw [if_pos (by omega), if_pos (by omega)]
    simp
  exact (ixN_seq e).1
theorem vs_appPop {p1 p2 ap cp ap2 cp2 : Pos} (hij : j ≠ i) (hi : i ∈ O) (hj : j ∈ O) (hNi : X.N[i]? = some x) (hvi : Vis X.env.scope x) (hNj : X.N[j]? = some y) (hvj : Vis X.env.scope y) (h : VE X E O e m)
    (hpe : ∀ {to tp : TE} {t : TA}, PE X (.Name y p1) to → PE X (.Name x p2) tp → PA X [e] t → PE X (.Call (.Attribute (.Name y p1) "append" ap) [.Call (.Attribute (.Name x p2) "pop" ap2) [e] [] cp2] [] cp) (tBM X.K "list" rAppend to (tCons (tBM X.K "list" rPopAt tp t) tNil)) := by
      intro to tp t h1 h2 h3; exact pe_bm PySem.F.plainAttrs_list PySem.F.slot_list_append PySem.F.type_list_append mt_append h1 (pa_cons (pe_bm PySem.F.plainAttrs_list PySem.F.slot_list_pop PySem.F.type_list_pop mt_popAt h2 h3) pa_nil))
    (hs : swapsWith (.Call (.Attribute (.Name y p1) "append" ap) [.Call (.Attribute (.Name x p2) "pop" ap2) [e] [] cp2] [] cp) none pos.line X.env = pure false := by rfl) (hst : starEach [e] X.env = (false, eval e X.env) :: starEach [] X.env := by rfl)
    (hd : (x == ("__debug__" : Str)) = false := by decide) (hcd : (x == ("__classdict__" : Str)) = false := by decide) (hd2 : (y == ("__debug__" : Str)) = false := by decide) (hcd2 : (y == ("__classdict__" : Str)) = false := by decide) :
    VS X E O O OL (.Expr (.Call (.Attribute (.Name y p1) "append" ap) [.Call (.Attribute (.Name x p2) "pop" ap2) [e] [] cp2] [] cp) pos) (sAppPop j i m) := by
  obtain ⟨mn, t, p, f⟩ := h
  refine ⟨_, ps_expr (hpe (pe_var hNj hvj hd2 hcd2) (pe_var hNi hvi hd hcd) (pa_cons p pa_nil hst)) hs, fun aS A0 H0 σ H s n xq de De S L k h => ?_⟩
  obtain ⟨fs, ds, ef, es, h⟩ := h
  obtain ⟨af, xf, z1, z2, z3, z4⟩ := own_lst S hj ef
  obtain ⟨a, xs, y1, y2, y3, y4⟩ := own_lst S hi es
  refine ⟨_, z1, .inl ⟨rfl, _, SqL.of z3⟩, _, y1, .inl ⟨rfl, _, SqL.of y3⟩, f aS A0 H0 σ H s n xq _ S L (mn _ _ _ _ _ (fun d n' q v H' kp st r => ?_) h)⟩
  obtain ⟨kk, d', ed, hd', hl, hlf, q⟩ := q
  subst ed
  simp only [Rep] at r
  subst r
  have S' := S.step kp st
  have y3' := kp _ _ y3 y2
  have y4' := y4.kp kp S.st AV.st
  have z3' := kp _ _ z3 z2
  have z4' := z4.kp kp S.st AV.st
  obtain ⟨v, hv, rv⟩ := y4'.get hd'
  have hk : kk < xs.length := (List.getElem?_eq_some_iff.mp hv).1
  have hk2 : kk < ds.length := (List.getElem?_eq_some_iff.mp hd').1
  have naf : af ≠ a := fun z => hij (S.ds j i a hj hi (z ▸ z1) y1)
  refine ⟨a, xs, (kk : Int), kk, v, rfl, rfl, y3', by omega, by unfold LIM at hl; omega, seq_nat hk, hv, ?_⟩
  have S2 := S'.mutL hi y1 y3' (y4'.erase kk)
  have hA : AV aS A0 O σ a := .inr (.inr ⟨i, hi, y1⟩)
  have sub := sub_poke (K := X.K) (o' := .lst (xs.eraseIdx kk)) hA y3' (fun _ z => nomatch z)
  have z3'' : upd H' a (.lst (xs.eraseIdx kk)) af = some (.lst xf) := by rw [upd_ne naf]; exact z3'
  refine ⟨af, xf, v, rfl, rfl, z3'', by rw [z4.length]; exact lim_lt hlf, k.nx _ _ _ _ (S2.mutL hj z1 z3'' ?_) q⟩
  exact (RepL.mono sub _ _ z4').app (RepL.cons (Rep.mono sub _ _ rv) RepL.nil)
/-! chains of two comparisons -/
def eChainT (f g : D → D → Option D) (ma mb mc : EM D) : EM Bool := fun xq s n Q => ma xq s n fun x n1 => mb xq s n1 fun y n2 => ∃ k, f x y = some (.bl k) ∧ if k = true then mc xq s n2 fun z n3 => ∃ b, g y z = some (.bl b) ∧ Q b n3 else Q false n2
end
end DL
namespace DL
open PySem PySem.Spec PyProof.Rows L2
variable [TabC]
/-! ### chains, is None, minus -/
section
variable {X : Cx} {E : XK} {O OL : List Nat} {a b c e : Expr} {ma mb mc m : EM D} {pos : Pos}
theorem mn_chainT {f g : D → D → Option D} (h1 : Mn ma) (h2 : Mn mb) (h3 : Mn mc) : Mn (eChainT f g ma mb mc) := fun xq s n Q Q' hq w => h1 _ _ _ _ _ (fun d1 n1 w => h2 _ _ _ _ _ (fun d2 n2 ⟨k, e, w⟩ => ⟨k, e, by
  cases k with
  | true => exact h3 _ _ _ _ _ (fun d3 n3 ⟨d, e, q⟩ => ⟨d, e, hq _ _ q⟩) w
  | false => exact hq _ _ w⟩) w) w
theorem vt_chain {op op' : CmpOp} {f g : D → D → Option D} (h : OpD X (compareOp op) f) (h' : OpD X (compareOp op') g) (ha : VB X E O a ma) (hb : VB X E O b mb) (hc : VB X E O c mc) (hm : lastMarks [op, op'] [b, c] = false := by rfl) : VT X E O (.Compare a [op, op'] [b, c] pos) (eChainT f g ma mb mc) := by
  obtain ⟨mna, ta, pa, fa⟩ := ha
  obtain ⟨mnb, tb, pb, fb⟩ := hb
  obtain ⟨mnc, tc, pc, fc⟩ := hc
  obtain ⟨r, ho, hr⟩ := h
  obtain ⟨r', ho', hr'⟩ := h'
  refine ⟨mn_chainT mna mnb mnc, _, pt_chain ho ho' pa pb pc hm, fun aS A0 H0 σ H s n xq Q S L hm => ?_⟩
  refine fa aS A0 H0 σ H s n xq _ S L (mna _ _ _ _ _ (fun d1 n1 q v1 H1 k1 st1 r1 => ?_) hm)
  refine fb aS A0 H0 σ H1 s n1 xq _ (S.step k1 st1) L (mnb _ _ _ _ _ (fun d2 n2 q2 v2 H2 k2 st2 r2 => ?_) q)
  obtain ⟨k, e, q2⟩ := q2
  refine hr aS H2 _ n2 d1 d2 _ v1 v2 _ (S.step (k1.trans k2) st2).cn (r1.kp k2 st1 AV.st) r2 e fun v H3 k3 st3 r3 => ?_
  rw [Rep] at r3
  refine ⟨k, r3, ?_⟩
  cases k with
  | false => rw [if_neg (by decide)] at q2 ⊢; exact ⟨false, rfl, q2 H3 ((k1.trans k2).trans k3) st3⟩
  | true =>
    rw [if_pos rfl] at q2 ⊢
    refine fc aS A0 H0 σ H3 s n2 xq _ (S.step ((k1.trans k2).trans k3) st3) L (mnc _ _ _ _ _ (fun d3 n3 q3 v3 H4 k4 st4 r4 => ?_) q2)
    obtain ⟨d, e', q3⟩ := q3
    refine hr' aS H4 _ n3 d2 d3 _ v2 v3 _ (S.step (((k1.trans k2).trans k3).trans k4) st4).cn ((r2.kp k3 st2 AV.st).kp k4 st3 AV.st) r4 e' fun v H' k st r => ?_
    rw [Rep] at r
    exact ⟨d, r, q3 H' ((((k1.trans k2).trans k3).trans k4).trans k) st⟩
/-- is None -/
def noneD : D → Bool
  | .non => true
  | _ => false
def rawD : D → Bool
  | .raw _ => true
  | _ => false
def dIsN (x y : D) : Option D := match y with | .non => if rawD x = true then none else some (.bl (noneD x)) | _ => none
theorem none_rep {K : PySem.W.Frag} {aS : Addr} {H : Hp} {A : AS} {d : D} {v : V} (h : rawD d = false) (r : RepB K aS H A d v) : decide (v = .non) = noneD d := by
  cases d with
  | non => rw [repB_non r]; rfl
  | bl b => rw [repB_bl r]; rfl
  | int b => rw [repB_int r]; rfl
  | str b => rw [repB_str r]; rfl
  | raw b => cases h
  | st => have r : Rep K aS H A .st v := r; rw [Rep] at r; rw [r]; rfl
  | tup b => obtain ⟨a, xs, e, _⟩ := repB_tup r; rw [e]; rfl
  | lst b => obtain ⟨a, xs, e, _⟩ := repB_lst r; rw [e]; rfl
  | dic b => obtain ⟨a, xs, e, _⟩ := repB_dic r; rw [e]; rfl
  | dmx b => obtain ⟨a, xs, e, _⟩ := r; rw [e]; rfl
  | obj C b => obtain ⟨a, dx, xs, e, _⟩ := r; rw [e]; rfl
  | exc C b => have r : Rep K aS H A (.exc C b) v := r; rw [Rep] at r; obtain ⟨a, e, _⟩ := r; rw [e]; rfl
theorem od_isN : OpD X (compareOp .Is) dIsN := by
  refine ⟨_, op_isN, fun aS H A n d1 d2 d v1 v2 Q c r1 r2 e w => ?_⟩
  unfold dIsN at e
  split at e
  · split at e
    · cases e
    · next h =>
      cases e
      refine ⟨repB_non r2, ?_⟩
      rw [none_rep (by simpa using h) r1]
      exact w _ H KpS.refl c.st rep_bl
  · cases e
def eNeg (m : EM D) : EM D := fun xq s n Q => m xq s n fun d n' => ∃ i : Int, d = .int i ∧ Q (.int (-i)) n'
theorem ve_neg (h : VB X E O e m) : VE X E O (.UnaryOp .USub e pos) (eNeg m) := by
  obtain ⟨mn, t, p, f⟩ := h
  refine ⟨fun xq s n Q Q' hq w => mn _ _ _ _ _ (fun d n' ⟨i, e, q⟩ => ⟨i, e, hq _ _ q⟩) w, _, pe_un un_neg p, fun aS A0 H0 σ H s n xq Q S L hm => f aS A0 H0 σ H s n xq _ S L (mn _ _ _ _ _ (fun d n' q v H' kp st r => ?_) hm)⟩
  obtain ⟨i, e, q⟩ := q
  subst e
  exact ⟨i, repB_int r, q _ H' kp st rep_int⟩
end
/-! ### a dict that is walked is locked meanwhile -/
section
variable {K : PySem.W.Frag} {aS a b : Addr} {H H' H0 : Hp} {A : AS} {A0 : A0T} {O : List Nat} {σ σ' : L2.St} {s s' : Ev} {n n' : Nat} {ys : List (Key × V)} {o : Obj}
theorem sub_lock (hb : H b = some (.dK ys)) : Sub K H (upd H b (.frz o (.dK ys))) A A := by
  have up : ∀ c u, H c = some u → c ≠ b → upd H b (.frz o (.dK ys)) c = some u := fun c u q z => by rw [upd_ne z]; exact q
  refine ⟨fun c xs h q => ⟨h, up _ _ q fun z => ?_⟩, fun c xs q => q.elim (fun q => .inl (up _ _ q fun z => ?_)) .inr, fun c zs h q => ⟨h, ?_⟩, fun c zs h q => ⟨h, ?_⟩, fun c C dx zs h q => ⟨h, up _ _ q fun z => ?_⟩, fun c u hu h q => ⟨h, up _ _ q fun z => by rw [z, hb] at q; cases q; first | exact hu.ndK _ rfl | exact hu.nfrz _ _ rfl⟩⟩
  · rw [z, hb] at q; cases q
  · rw [z, hb] at q; cases q
  · rcases q with q | ⟨o', q⟩
    · by_cases z : c = b
      · subst z
        rw [hb] at q
        cases q
        exact .inr ⟨o, upd_same⟩
      · exact .inl (up _ _ q z)
    · exact .inr ⟨o', up _ _ q fun z => by rw [z, hb] at q; cases q⟩
  · rcases q with q | ⟨o', q⟩
    · exact .inl (up _ _ q fun z => by rw [z, hb] at q; unfold MD.MixO at q; cases q)
    · exact .inr ⟨o', up _ _ q fun z => by rw [z, hb] at q; unfold MD.MixO at q; cases q⟩
  · rw [z, hb] at q; cases q
theorem sub_unlock (hb : H b = some (.frz o (.dK ys))) : Sub K H (upd H b (.dK ys)) A A := by
  have up : ∀ c u, H c = some u → c ≠ b → upd H b (.dK ys) c = some u := fun c u q z => by rw [upd_ne z]; exact q
  refine ⟨fun c xs h q => ⟨h, up _ _ q fun z => ?_⟩, fun c xs q => q.elim (fun q => .inl (up _ _ q fun z => ?_)) .inr, fun c zs h q => ⟨h, ?_⟩, fun c zs h q => ⟨h, ?_⟩, fun c C dx zs h q => ⟨h, up _ _ q fun z => ?_⟩, fun c u hu h q => ⟨h, up _ _ q fun z => by rw [z, hb] at q; cases q; first | exact hu.ndK _ rfl | exact hu.nfrz _ _ rfl⟩⟩
  · rw [z, hb] at q; cases q
  · rw [z, hb] at q; cases q
  · rcases q with q | ⟨o', q⟩
    · exact .inl (up _ _ q fun z => by rw [z, hb] at q; cases q)
    · by_cases z : c = b
      · subst z
        rw [hb] at q
        cases q
        exact .inl upd_same
      · exact .inr ⟨o', up _ _ q z⟩
  · rcases q with q | ⟨o', q⟩
    · exact .inl (up _ _ q fun z => by rw [z, hb] at q; unfold MD.MixO at q; cases q)
    · exact .inr ⟨o', up _ _ q fun z => by rw [z, hb] at q; unfold MD.MixO at q; cases q⟩
  · rw [z, hb] at q; cases q
theorem StA.lock (st : StA K aS H n) (hb : H b = some (.dK ys)) : StA K aS (L2.upd H b (.frz o (.dK ys))) n := by
  obtain ⟨a0, cs, i, g, m, d, e, h1, ⟨ob, h2⟩, h3, h4, h5, h6, h7, h8, h9⟩ := st
  refine ⟨a0, cs, i, g, m, d, ?_, h1, ⟨ob, ?_⟩, h3, h4, h5, h6, h7, h8, tabs_poke h9 hb (fun _ z => nomatch z) (fun _ _ z => by unfold LamX.CodeO at z; cases z)⟩
  · rw [upd_ne (show aS ≠ b from fun z => by rw [z, hb] at e; cases e)]; exact e
  · rw [upd_ne (show a0 ≠ b from fun z => by rw [z, hb] at h2; cases h2)]; exact h2
theorem StA.unlock (st : StA K aS H n) (hb : H b = some (.frz o (.dK ys))) : StA K aS (L2.upd H b (.dK ys)) n := by
  obtain ⟨a0, cs, i, g, m, d, e, h1, ⟨ob, h2⟩, h3, h4, h5, h6, h7, h8, h9⟩ := st
  refine ⟨a0, cs, i, g, m, d, ?_, h1, ⟨ob, ?_⟩, h3, h4, h5, h6, h7, h8, tabs_poke h9 hb (fun _ z => nomatch z) (fun _ _ z => by unfold LamX.CodeO at z; cases z)⟩
  · rw [upd_ne (show aS ≠ b from fun z => by rw [z, hb] at e; cases e)]; exact e
  · rw [upd_ne (show a0 ≠ b from fun z => by rw [z, hb] at h2; cases h2)]; exact h2
theorem Own.mv {d : D} (S : Sub K H H' A A) (h1 : ∀ u, H a = some u → (∀ o v, u ≠ .frz o v) → H' a = some u) (r : Own K aS H A a d) : Own K aS H' A a d := by
  cases d with
  | lst ds => obtain ⟨xs, e, q⟩ := r; exact ⟨xs, h1 _ e (fun _ _ z => nomatch z), RepL.mono S _ _ q⟩
  | dic ds => obtain ⟨xs, e, q⟩ := r; exact ⟨xs, h1 _ e (fun _ _ z => nomatch z), RepK.mono S _ _ q⟩
  | dmx ds => obtain ⟨xs, e, q⟩ := r; exact ⟨xs, h1 _ e (fun _ _ z => by unfold MD.MixO at z; cases z), RepP.mono S _ _ q⟩
  | obj C ds => obtain ⟨dx, xs, e, q⟩ := r; exact ⟨dx, xs, h1 _ e (fun _ _ z => nomatch z), RepF.mono S _ _ q⟩
  | _ => exact r
theorem SR.lock (S : SR K aS O A0 H0 σ H s n) (hn : ¬ AV aS A0 O σ b) (hb : H b = some (.dK ys)) : SR K aS O A0 (bare O σ (upd H b (.frz o (.dK ys)))) σ (upd H b (.frz o (.dK ys))) s n where
  len := S.len
  sh := fun i d h1 h2 => let ⟨v, e, r⟩ := S.sh i d h1 h2; ⟨v, e, Rep.mono (sub_lock hb) _ _ r⟩
  ow := fun i h => by
    obtain ⟨d, a, e1, e2, e3, e4, e5, e6⟩ := S.ow i h
    refine ⟨d, a, e1, e2, bare_own ⟨i, h, e2⟩, e4, e5, e6.mv (sub_lock hb) fun u e _ => ?_⟩
    rw [upd_ne (show a ≠ b from fun z => hn (.inr (.inr ⟨i, h, z ▸ e2⟩)))]
    exact e
  ds := S.ds
  fr := fun c u e _ => .of (bare_some e)
  st := S.st.lock hb
  av := fun c h => by
    obtain ⟨u, e⟩ := S.av c h
    by_cases z : c = b
    · exact ⟨_, by rw [z]; exact upd_same⟩
    · exact ⟨u, by rw [upd_ne z]; exact e⟩
  pn := S.pn
theorem SR.leL (S : SR K aS O A0 H0 σ H s n) (hb : H b = some (.dK ys)) : ∀ c u, H0 c = some u → c ≠ aS → c ≠ b → Kp1 u (bare O σ (upd H b (.frz o (.dK ys))) c) := fun c u e z1 z2 => by
  have h := S.le c u e z1
  have hn : ¬ ∃ i, i ∈ O ∧ σ[i]? = some (some (.ref c)) := fun y => by
    obtain ⟨v, q⟩ := h.dom
    rw [bare_own y] at q
    cases q
  rw [bare_not hn] at h
  rw [bare_not hn, upd_ne z2]
  exact h
theorem SR.unkp (S : SR K aS O A0 H0 σ H s n) (hb : H b = some (.dK ys)) (k : KpS aS (bare O σ (upd H b (.frz o (.dK ys)))) H') : KpS aS H0 (upd H' b (.dK ys)) := fun c u e z => by
  by_cases y : c = b
  · have h := S.fr c u e z
    rw [y, hb] at h
    rw [y, upd_same]
    exact h
  · rw [upd_ne y]
    exact (S.leL hb c u e z y).trans fun v e' => k c v e' z
theorem SR.atL (S : SR K aS O A0 H0 σ H s n) (hn : ¬ AV aS A0 O σ b) (hb : H b = some (.dK ys)) (k : KpS aS (bare O σ (upd H b (.frz o (.dK ys)))) H') : H' b = some (.frz o (.dK ys)) :=
  k b (.frz o (.dK ys)) ((bare_not fun z => hn (.inr (.inr z))).trans upd_same) fun z => hn (.inr (.inl z))
theorem SR.unlock (S : SR K aS O A0 H0 σ H s n) (hn : ¬ AV aS A0 O σ b) (hb : H b = some (.dK ys)) {O' : List Nat} (S' : SR K aS O' A0 (bare O σ (upd H b (.frz o (.dK ys)))) σ' H' s' n') : SR K aS O' A0 H0 σ' (upd H' b (.dK ys)) s' n' where
  len := S'.len
  sh := fun i d h1 h2 => let ⟨v, e, r⟩ := S'.sh i d h1 h2; ⟨v, e, Rep.mono (sub_unlock (S.atL hn hb S'.fr)) _ _ r⟩
  ow := fun i h => by
    obtain ⟨d, a, e1, e2, e3, e4, e5, e6⟩ := S'.ow i h
    refine ⟨d, a, e1, e2, Option.eq_none_iff_forall_ne_some.mpr fun u z => ?_, e4, e5, e6.mv (sub_unlock (S.atL hn hb S'.fr)) fun u e nf => ?_⟩
    · by_cases y : a = b
      · rw [y, bare_not fun z => hn (.inr (.inr z)), upd_same] at e3
        cases e3
      · obtain ⟨v, q⟩ := (S.leL hb a u z e5 y).dom
        rw [e3] at q
        cases q
    · have ne : a ≠ b := fun z => by
        rw [z, S.atL hn hb S'.fr] at e
        cases e
        exact nf _ _ rfl
      rw [upd_ne ne]
      exact e
  ds := S'.ds
  fr := S.unkp hb S'.fr
  st := S'.st.unlock (S.atL hn hb S'.fr)
  av := fun c h => by
    obtain ⟨u, e⟩ := S'.av c h
    by_cases z : c = b
    · exact ⟨_, by rw [z]; exact upd_same⟩
    · exact ⟨u, by rw [upd_ne z]; exact e⟩
  pn := S'.pn
end
/-- a path: a name, a field of a path, a place of a tuple -/
def Plain0 (u : HO) : Prop := (∀ C dx fs, u ≠ .ins C dx fs) ∧ (∀ xs, u ≠ .tup xs) ∧ ∀ o v, u ≠ .frz o v
theorem plain_dK {ys : List (Key × V)} : Plain0 (.dK ys) := ⟨fun _ _ _ z => (nomatch z), fun _ z => (nomatch z), fun _ _ z => (nomatch z)⟩
def VP (X : Cx) (O : List Nat) (e : Expr) (p : Ev → Option D) : Prop := ∃ t, PE X e t ∧ ∃ pv : L2.St → Hp → V → Prop, (∀ σ H v (Q : VK), pv σ H v → Q v H → t σ H Q) ∧
  (∀ (aS : Addr) (A0 : A0T) (H0 : Hp) (σ : L2.St) (H : Hp) (s : Ev) (n : Nat) (d : D), SR X.K aS O A0 H0 σ H s n → p s = some d → ∃ v, pv σ H v ∧ Rep X.K aS H (AV aS A0 O σ) d v) ∧
  ∀ σ H b o u v, H b = some u → Plain0 u → pv σ H v → pv σ (upd H b (.frz o u)) v
section
variable {X : Cx} {E : XK} {O OL vs : List Nat} {e tg : Expr} {p : Ev → Option D} {pos : Pos} {i : Nat} {g : DG} {mb : SM} {me mk : EM D} {mt : EM Bool}
theorem vp_var {x : Str} (hi : i ∉ O) (hN : X.N[i]? = some x) (hv : Vis X.env.scope x) (hd : (x == ("__debug__" : Str)) = false := by decide) (hcd : (x == ("__classdict__" : Str)) = false := by decide) : VP X O (.Name x pos) (fun s => (s[i]?).join) := by
  refine ⟨_, pe_var hN hv hd hcd, fun σ _ v => σ[i]? = some (some v), fun σ H v Q e q => ⟨v, e, q⟩, fun aS A0 H0 σ H s n d S e => ?_, fun _ _ _ _ _ _ _ _ h => h⟩
  have e : (s[i]?).join = some d := e
  have es : s[i]? = some (some d) := by
    cases h : s[i]? with
    | none => rw [h] at e; cases e
    | some o => rw [h] at e; exact congrArg some e
  exact S.sh i d es hi
def fldD (C : Str) (g : Str) : D → Option D
  | .obj C' fs => if C' = C then fs.lookup g else none
  | _ => none
theorem vp_fld {g : Str} {C : Str} (cl : Cls X.K (He.ga X.K C)) (na : NoAttr X.K (He.ga X.K C) g) (h : VP X O e p) (hb : attributeBase e g X.env (eval e X.env) = eval e X.env := by rfl) : VP X O (.Attribute e g pos) (fun s => (p s).bind (fldD C g)) := by
  obtain ⟨t, pe, pv, h1, h2, h3⟩ := h
  refine ⟨_, pe_fld pe hb, fun σ H v => ∃ a dx fs, pv σ H (.ref a) ∧ H a = some (.ins (He.ga X.K C) dx fs) ∧ fs.lookup g = some v, fun σ H v Q ⟨a, dx, fs, hp, hq, e2⟩ q => h1 σ H _ _ hp ⟨a, _, dx, fs, v, rfl, hq, cl, na, e2, q⟩, fun aS A0 H0 σ H s n d S e => ?_, fun σ H b o u v hb pl ⟨a, dx, fs, hp, hq, e2⟩ => ⟨a, dx, fs, h3 σ H b o u _ hb pl hp, ?_, e2⟩⟩
  · obtain ⟨d0, hp, e2⟩ := Option.bind_eq_some_iff.mp e
    unfold fldD at e2
    split at e2
    · split at e2
      · next C' fs hc =>
        subst hc
        obtain ⟨v, ev, r⟩ := h2 aS A0 H0 σ H s n _ S hp
        rw [Rep] at r
        obtain ⟨a, dx, ys, eq, na', hq, rf⟩ := r
        subst eq
        rcases repF_look g rf with z | ⟨d', u, z1, z2, z3⟩
        · rw [z.1] at e2; cases e2
        · rw [e2] at z1
          cases z1
          exact ⟨u, ⟨a, dx, ys, ev, hq, z2⟩, z3⟩
      · cases e2
    · cases e2
  · have z : a ≠ b := fun z => pl.1 _ dx fs (by rw [z, hb] at hq; exact Option.some.inj hq)
    rw [upd_ne z]
    exact hq
theorem atI_nat {α : Type} (xs : List α) (k : Nat) : L2.atI xs (k : Int) = xs[k]? := by
  unfold L2.atI ixN
  by_cases h : k < xs.length
  · rw [if_pos (by omega), if_pos (by omega)]
    simp
  · rw [if_pos (by omega), if_neg (by omega)]
    simp at h
    simp [h]
end
end DL
namespace DL
open PySem PySem.Spec PyProof.Rows L2
variable [TabC]
/-! ### dicts by data -/
def putD (kvs : List (Key × D)) (k : Key) (v : D) : List (Key × D) :=
  if (lookK kvs k).isSome = true then kvs.map (fun p => (p.1, if p.1 = k then v else p.2)) else kvs.concat (k, v)
def mergeD (kvs more : List (Key × D)) : List (Key × D) := more.foldl (fun acc kv => putD acc kv.1 kv.2) kvs
section
variable {K : PySem.W.Frag} {aS a b : Addr} {H H' H0 : Hp} {A : AS}
theorem RepK.nil : RepK K aS H A [] [] := by rw [RepK]
theorem RepK.cons {k : Key} {d : D} {v : V} {ds : List (Key × D)} {vs : List (Key × V)} (r : Rep K aS H A d v) (q : RepK K aS H A ds vs) : RepK K aS H A ((k, d) :: ds) ((k, v) :: vs) := by
  rw [RepK]
  exact ⟨v, vs, rfl, r, q⟩
theorem RepK.new (k : Key) {ds : List (Key × D)} {vs : List (Key × V)} (h : RepK K aS H A ds vs) : (vs.any fun kv => decide (kv.1 = k)) = (lookK ds k).isSome := by
  rw [valV_any]
  rcases h.val k with ⟨e1, e2⟩ | ⟨_, _, e1, e2, _⟩ <;> rw [e1, e2] <;> rfl
theorem RepK.swap {k : Key} {d : D} {v : V} (r : Rep K aS H A d v) : ∀ {ds : List (Key × D)} {vs : List (Key × V)}, RepK K aS H A ds vs → RepK K aS H A (ds.map fun p => (p.1, if p.1 = k then d else p.2)) (vs.map fun kv => if kv.1 = k then (kv.1, v) else kv)
  | [], vs, h => by rw [RepK] at h; rw [h]; exact RepK.nil
  | (k', d') :: ds, vs, h => by
    rw [RepK] at h
    obtain ⟨v', vr, e, r', q⟩ := h
    rw [e, List.map_cons, List.map_cons]
    by_cases z : k' = k
    · rw [if_pos z, if_pos z]; exact RepK.cons r (RepK.swap r q)
    · rw [if_neg z, if_neg z]; exact RepK.cons r' (RepK.swap r q)
theorem RepK.app {es : List (Key × D)} {ws : List (Key × V)} (r : RepK K aS H A es ws) : ∀ {ds : List (Key × D)} {vs : List (Key × V)}, RepK K aS H A ds vs → RepK K aS H A (ds ++ es) (vs ++ ws)
  | [], vs, h => by rw [RepK] at h; rw [h]; exact r
  | (k', d') :: ds, vs, h => by
    rw [RepK] at h
    obtain ⟨v', vr, e, r', q⟩ := h
    rw [e]
    exact RepK.cons r' (RepK.app r q)
theorem RepK.put {ds : List (Key × D)} {vs : List (Key × V)} (k : Key) {d : D} {v : V} (h : RepK K aS H A ds vs) (r : Rep K aS H A d v) : RepK K aS H A (putD ds k d) (putK vs k v) := by
  unfold putD putK
  rw [h.new k]
  split
  · exact RepK.swap r h
  · rw [List.concat_eq_append]
    exact RepK.app (RepK.cons r RepK.nil) h
theorem RepK.merge : ∀ {es : List (Key × D)} {ws : List (Key × V)} {ds : List (Key × D)} {vs : List (Key × V)}, RepK K aS H A es ws → RepK K aS H A ds vs → RepK K aS H A (mergeD ds es) (mergeK vs ws)
  | [], ws, ds, vs, h, q => by rw [RepK] at h; rw [h]; exact q
  | (k, d) :: es, ws, ds, vs, h, q => by
    rw [RepK] at h
    obtain ⟨v', vr, e, r', h⟩ := h
    subst e
    exact RepK.merge (es := es) (ws := vr) h (q.put k r')
theorem putD_len (kvs : List (Key × D)) (k : Key) (d : D) : (putD kvs k d).length ≤ kvs.length + 1 := by
  unfold putD
  split
  · rw [List.length_map]; omega
  · rw [List.length_concat]; exact Nat.le_refl _
end
/-! dict(x) -/
def pairK : D → Option (Key × D)
  | .tup [k, v] => (keyD k).map fun k => (k, v)
  | _ => none
def pairsK : List D → Option (List (Key × D))
  | [] => some []
  | d :: ds => match pairK d, pairsK ds with | some p, some r => some (p :: r) | _, _ => none
def dDict : List D → Option D
  | [.dic kvs] => some (.dic kvs)
  | [.lst ds] => (pairsK ds).map fun kvs => .dic (mergeD [] kvs)
  | _ => none
section
variable {X : Cx}
theorem call_dictC : CallR X (.type "dict") (fun xs H Q => ∃ (a : Addr) (kvs : List (Key × V)), xs = [.ref a] ∧ Rd H a (.dK kvs) ∧ ∀ p, H p = none → Q (.ref p) (upd H p (.dK kvs))) := by
  intro pins s σ H xs us Q I rv q
  obtain ⟨a, kvs, ex, h, q⟩ := q
  subst ex
  obtain ⟨u, eu, rx⟩ := vals1 rv
  subst eu
  cases rx
  exact d_copyOf I h fun p s' hp I' => ⟨.ref p, _, I', rfl, q p hp⟩
theorem pairs_rep {K : PySem.W.Frag} {aS : Addr} {H : Hp} {A : AS} : ∀ {ds : List D} {vs : List V} {kvs : List (Key × D)}, A aS → pairsK ds = some kvs → RepL K aS H A ds vs → ∃ (ps : List Addr) (kws : List (Key × V)), vs = ps.map V.ref ∧ Paired (fun p (kv : Key × V) => SqT K H p [kV kv.1, kv.2]) ps kws ∧ RepK K aS H A kvs kws
  | [], vs, kvs, hA, e, h => by
    rw [RepL] at h
    cases e
    exact ⟨[], [], h, .nil, RepK.nil⟩
  | d :: ds, vs, kvs, hA, e, h => by
    rw [RepL] at h
    obtain ⟨v, vr, ev, r, q⟩ := h
    unfold pairsK at e
    split at e
    · next p rr hp hr =>
      cases e
      obtain ⟨ps, kws, e1, e2, e3⟩ := pairs_rep hA hr q
      unfold pairK at hp
      split at hp
      · next k v' =>
        cases hk : keyD k with
        | none => rw [hk] at hp; cases hp
        | some kk =>
          rw [hk] at hp
          cases hp
          rw [Rep] at r
          obtain ⟨a, xs, ea, ht, rl⟩ := r
          rw [RepL] at rl
          obtain ⟨v1, vr1, ex, r1, rl⟩ := rl
          rw [RepL] at rl
          obtain ⟨v2, vr2, ex2, r2, rl⟩ := rl
          rw [RepL] at rl
          subst rl ex2 ex ea
          have ek := key_rep hk (Rep.b hA r1)
          subst ek
          subst e1
          refine ⟨a :: ps, (kk, v2) :: kws, ev, .cons ht.sq e2, RepK.cons r2 e3⟩
      · cases hp
    · cases e
theorem own_newK' {K : PySem.W.Frag} {aS p : Addr} {H : Hp} {A : AS} {ds : List (Key × D)} {xs : List (Key × V)} (hp : H p = none) (r : RepK K aS H A ds xs) : Own K aS (upd H p (.dK xs)) (fun b => A b ∨ b = p) p (.dic ds) := ⟨xs, upd_same, RepK.mono (sub_new hp) _ _ r⟩
theorem cf_dict (hc : X.calm = true) : CallF X (.type "dict") dDict := by
  refine ⟨_, CallR.or call_dictC (call_dictP hc), fun aS H A n ds d vs Q c rl e w => ?_⟩
  unfold dDict at e
  split at e
  · cases e
    obtain ⟨v, e1, r⟩ := rl_one rl
    obtain ⟨p, xs, e2, _, h1, q⟩ := repB_dic r
    subst e1 e2
    exact .inl ⟨p, xs, rfl, h1, fun l hl => w _ _ hl (KpS.upd hl) (c.st.upd hl) (own_newK' hl q)⟩
  · next ds' =>
    cases hp : pairsK ds' with
    | none => rw [hp] at e; cases e
    | some kvs =>
      rw [hp] at e
      cases e
      obtain ⟨v, e1, r⟩ := rl_one rl
      obtain ⟨p, xs, e2, _, h1, q⟩ := repB_lst r
      subst e1 e2
      obtain ⟨ps, kws, z1, z2, z3⟩ := pairs_rep c.a hp q
      subst z1
      exact .inr ⟨p, ps, kws, rfl, SqL.of h1, z2, fun l hl => w _ _ hl (KpS.upd hl) (c.st.upd hl) (own_newK' hl (z3.merge RepK.nil))⟩
  · cases e
/-! {}, d[k] = v, d.get(k, x) -/
variable {E : XK} {O OL vs : List Nat} {e tg o : Expr} {p : Ev → Option D} {pos : Pos} {i : Nat} {g : DG} {mb : SM} {m me mk mo mx : EM D} {mt : EM Bool}
theorem vf_dic0 : VF X E O (.Dict [] [] pos) (eC (.dic [])) := ⟨mn_c, _, pe_dnewK, fun aS A0 H0 σ H s n xq Q S L hm q hq => hm q _ hq (KpS.upd hq) (S.st.upd hq) (own_newK' hq RepK.nil)⟩
def sDput (i : Nat) (mk m : EM D) : SM := fun xq de s n => m xq s n fun d n1 => mk xq s n1 fun k n2 => ∃ kk kvs, keyD k = some kk ∧ s[i]? = some (some (.dic kvs)) ∧ kvs.length < LIM ∧ de.nx (s.set i (some (.dic (putD kvs kk d)))) n2
theorem vs_dput {x : Str} {ix : Expr} {px ps : Pos} (hu : X.A.units + 1 < cLine) (hi : i ∈ O) (hN : X.N[i]? = some x) (hv : Vis X.env.scope x) (hk : VE X E O ix mk) (h : VE X E O e m) (hs : swapsWith e (some (.Subscript (.Name x px) ix ps)) pos.line X.env = pure false := by rfl)
    (hd : (x == ("__debug__" : Str)) = false := by decide) (hcd : (x == ("__classdict__" : Str)) = false := by decide) : VS X E O O OL (.Assign [.Subscript (.Name x px) ix ps] e pos) (sDput i mk m) := by
  obtain ⟨mn, t, pe, f⟩ := h
  obtain ⟨mnk, tk, pk, fk⟩ := hk
  refine ⟨_, ps_dput hu (pe_var hN hv hd hcd) pk pe hs, fun aS A0 H0 σ H s n xq de De S L k h => ?_⟩
  refine f aS A0 H0 σ H s n xq _ S L (mn _ _ _ _ _ (fun d n1 q v H1 k1 st1 r1 => ?_) h)
  have S1 := S.step k1 st1
  obtain ⟨d0, a, e1, e2, _⟩ := S.ow i hi
  refine ⟨.ref a, e2, fk aS A0 H0 σ H1 s n1 xq _ S1 L (mnk _ _ _ _ _ (fun dk n2 q2 u H2 k2 st2 r2 => ?_) q)⟩
  obtain ⟨kk, kvs, z1, z2, z3, q2⟩ := q2
  have S2 := S1.step k2 st2
  obtain ⟨a', ys, y1, y2, y3, y4⟩ := own_dic S2 hi z2
  rw [e2] at y1
  cases y1
  have ek := key_rep z1 (r2.b AV.st)
  subst ek
  refine ⟨a, _, rfl, DPut.k y3 (by rw [y4.length]; exact lim_lt z3), k.nx _ _ _ _ (S2.mutD hi e2 y3 (y4.put kk (r1.kp k2 st1 AV.st))) q2⟩
def eDget (mo mk mx : EM D) : EM D := fun xq s n Q => mo xq s n fun d n1 => ∃ kvs, d = .dic kvs ∧ mk xq s n1 fun k n2 => mx xq s n2 fun x n3 => ∃ kk, keyD k = some kk ∧ Q ((lookK kvs kk).getD x) n3
theorem ve_dget {ek ex : Expr} {ap : Pos} (hu : X.A.units + 1 < cLine) (ho : VB X E O o mo) (hk : VE X E O ek mk) (hx : VE X E O ex mx) (hM : M2 X o "get" ap ek ex pos := by exact ⟨rfl, rfl, rfl, rfl⟩) : VE X E O (.Call (.Attribute o "get" ap) [ek, ex] [] pos) (eDget mo mk mx) := by
  obtain ⟨mno, to, po, fo⟩ := ho
  obtain ⟨mnk, tk, pk, fk⟩ := hk
  obtain ⟨mnx, tx, px, fx⟩ := hx
  refine ⟨fun xq s n Q Q' hq w => mno _ _ _ _ _ (fun d n1 ⟨kvs, e, w⟩ => ⟨kvs, e, mnk _ _ _ _ _ (fun k n2 w => mnx _ _ _ _ _ (fun x n3 ⟨kk, e, w⟩ => ⟨kk, e, hq _ _ w⟩) w) w⟩) w, _, pe_dget2 hu po pk px hM, fun aS A0 H0 σ H s n xq Q S L hm => ?_⟩
  refine fo aS A0 H0 σ H s n xq _ S L (mno _ _ _ _ _ (fun d n1 q v H1 k1 st1 r1 => ?_) hm)
  obtain ⟨kvs, ed, q⟩ := q
  subst ed
  obtain ⟨a, ys, ev, na, hr, rk⟩ := repB_dic r1
  refine ⟨a, ev, .inl ⟨ys, hr⟩, fk aS A0 H0 σ H1 s n1 xq _ (S.step k1 st1) L (mnk _ _ _ _ _ (fun d2 n2 q2 v2 H2 k2 st2 r2 => ?_) q)⟩
  refine fx aS A0 H0 σ H2 s n2 xq _ (S.step (k1.trans k2) st2) L (mnx _ _ _ _ _ (fun d3 n3 q3 v3 H3 k3 st3 r3 => ?_) q2)
  obtain ⟨kk, z1, q3⟩ := q3
  have ek := key_rep z1 (r2.b AV.st)
  subst ek
  have k23 := k2.trans k3
  have rk' := rk.kp k23 st1 AV.st
  have hr' := Rd.kp k23 na hr
  refine ⟨valV ys kk, .inl ⟨ys, kk, hr', rfl, rfl⟩, q3 _ H3 (k1.trans k23) st3 ?_⟩
  rcases rk'.val kk with ⟨y1, y2⟩ | ⟨d', v', y1, y2, y3⟩
  · rw [y1, y2]; exact r3
  · rw [y1, y2]; exact y3
end
end DL
namespace DL
open PySem PySem.Spec PyProof.Rows L2
variable [TabC]
/-! ### loops by their ends -/
def GSem (X : Cx) (O vs : List Nat) (g : DG) (gt : TG) : Prop := ∀ (aS : Addr) (A0 : A0T) (H0 : Hp) (σ : L2.St) (H : Hp) (s : Ev) (n : Nat) (d : D) (v : V) (Q : Ev → Prop) (QH : L2.St → Hp → Prop), SR X.K aS O A0 H0 σ H s n → Rep X.K aS H (AV aS A0 O σ) d v → g d s Q →
    (∀ σ' s', SR X.K aS O A0 H0 σ' H s' n → σ'.length = σ.length → (∀ j, j ∉ vs → σ'[j]? = σ[j]?) → AV aS A0 O σ' = AV aS A0 O σ → Q s' → QH σ' H) → gt v σ H QH
def TSem (X : Cx) (E : XK) (O : List Nat) (mt : EM Bool) (t : TT) : Prop := ∀ (aS : Addr) (A0 : A0T) (H0 : Hp) (σ : L2.St) (H : Hp) (s : Ev) (n : Nat) (xq : XQ) (Q : Bool → Hp → Prop), SR X.K aS O A0 H0 σ H s n → LX X.K E aS A0 H0 xq →
    mt xq s n (fun b n' => ∀ H', KpS aS H H' → StA X.K aS H' n' → Q b H') → t σ H Q
def ESem (X : Cx) (E : XK) (O : List Nat) (m : EM D) (t : TE) : Prop := ∀ (aS : Addr) (A0 : A0T) (H0 : Hp) (σ : L2.St) (H : Hp) (s : Ev) (n : Nat) (xq : XQ) (Q : VK), SR X.K aS O A0 H0 σ H s n → LX X.K E aS A0 H0 xq →
    m xq s n (fun d n' => ∀ v H', KpS aS H H' → StA X.K aS H' n' → Rep X.K aS H' (AV aS A0 O σ) d v → Q v H') → t σ H Q
def BSem (X : Cx) (E : XK) (O : List Nat) (mb : SM) (t : TS) : Prop := ∀ (aS : Addr) (A0 : A0T) (H0 : Hp) (σ : L2.St) (H : Hp) (s : Ev) (n : Nat) (xq : XQ) (de : DE) (De : Ends), SR X.K aS O A0 H0 σ H s n → LX X.K E aS A0 H0 xq → LK X.K aS O O A0 H0 de De → mb xq de s n → t De σ H
/-- a walk J that begins at H1 -/
abbrev iAt (J : It) (H1 : Hp) : TI := fun _ _ R => R J H1
def ForW (J : It) (g : TG) (tb : TS) (D : Ends) (σ : L2.St) (H1 : Hp) : Prop := tFor (iAt J H1) g tb D σ H1
def LcW (J : It) (g : TG) (tt : TT) (te : TE) (vs : List Nat) (σ : L2.St) (H1 : Hp) (Q : VK) : Prop := tLc (iAt J H1) g tt te vs σ H1 Q
def DcW (J : It) (g : TG) (tt : TT) (tk tv : TE) (vs : List Nat) (σ : L2.St) (H1 : Hp) (Q : VK) : Prop := tDc (iAt J H1) g tt tk tv vs σ H1 Q
/-- one turn of a dict comprehension into the dict at D, N what stands behind it -/
def DTurn (g : TG) (tt : TT) (tk tv : TE) (vs : List Nat) (σ : L2.St) (D : Addr) (N : Hp → Prop) (x : V) (H : Hp) : Prop := g x (wipe σ vs) H fun σ' H' => wipe σ' vs = wipe σ vs ∧ tt σ' H' fun c H'' =>
  if c = true then tk σ' H'' fun y Hk => tv σ' Hk fun z Hv => ∃ kvs k, y = kV k ∧ Hv D = some (.dK kvs) ∧ kvs.length < sizeLine ∧ N (upd Hv D (.dK (putK kvs k z))) else N H''
theorem dc_walk {J : It} {n : Nat} {G : Hp → Prop} {Y : Nat → Hp → V → Hp → Prop} (w : Walk J n G Y) {g : TG} {tt : TT} {tk tv : TE} {vs : List Nat} {σ : L2.St} {H1 : Hp} {Q : VK}
    (h : ∀ D, H1 D = none → ∃ Pv : Nat → Hp → Prop, Pv 0 (upd H1 D (.dK [])) ∧ (∀ i H, i ≤ n → Pv i H → G H) ∧ (∀ i x H H', i < n → Pv i H → Y i H x H' → DTurn g tt tk tv vs σ D (Pv (i + 1)) x H') ∧ ∀ H, Pv n H → Q (.ref D) H) : DcW J g tt tk tv vs σ H1 Q := by
  intro D hD
  obtain ⟨Pv, h0, hG, hs, hd⟩ := h D hD
  refine ⟨fun i m H => i ≤ n ∧ m = n - i ∧ Pv i H, ⟨n, Nat.zero_le _, rfl, h0⟩, fun i m H z => ?_⟩
  obtain ⟨hi, hm, p⟩ := z
  rcases Nat.lt_or_ge i n with hlt | hge
  · exact .inr ⟨w.goes i H hlt (hG i H hi p), Pv (i + 1), fun H' q => ⟨n - (i + 1), by omega, by omega, rfl, q⟩, fun x H' y => hs i x H H' hlt p (w.yields i H x H' hlt (hG i H hi p) y)⟩
  · obtain rfl : i = n := Nat.le_antisymm hi hge
    exact .inl ⟨w.stops H (hG _ H hi p), hd H p⟩
section
variable {X : Cx} {E : XK} {O OB OL vs hid : List Nat} {tg e iter : Expr} {ifs : List Expr} {m me mk : EM D} {mi : EM (List D)} {mt : EM Bool} {mb : SM} {g : DG} {scope : Scope} {pos : Pos}
theorem for_fin {gt : TG} {tb : TS} (fg : GSem X O vs g gt) (fb : BSem X E O mb tb) {aS : Addr} {A0 : A0T} {H0 H1 : Hp} {σ : L2.St} {s : Ev} {n1 : Nat} {xq : XQ} {de : DE} {De : Ends} {ds : List D} {J : It}
    (S1 : SR X.K aS O A0 H0 σ H1 s n1) (L : LX X.K E aS A0 H0 xq) (k : LK X.K aS O OL A0 H0 de De) (it : ItOk X.K aS A0 ds J (bare O σ H1)) (q : sForL g mb xq de ds s n1) : ForW J gt tb De σ H1 := by
  have le := S1.le
  have hF : ∀ {σ' H' s' n'}, SR X.K aS O A0 (bare O σ H1) σ' H' s' n' → Far aS A0 (bare O σ H1) (AV aS A0 O σ') := fun {σ' H' s' n'} S' => ⟨AV.st, fun b z => by
    rcases z with z | z | ⟨j, hj, e⟩
    · exact .inl z
    · exact .inr (.inl z)
    · obtain ⟨d, b', e1, e2, e3, _⟩ := S'.ow j hj
      rw [e] at e2
      cases e2
      exact .inr (.inr e3)⟩
  obtain ⟨G, Y, w, hG, hY⟩ := it
  refine for_it w (fun i σ' H' => ∃ s' n', SR X.K aS O A0 (bare O σ H1) σ' H' s' n' ∧ sForL g mb xq de (ds.drop i) s' n') ⟨s, n1, S1.base, q⟩ (fun i σ' H' _ z => ?_) (fun i x σ' H' H2 hi z y => ?_) (fun σ' H' z => ?_)
  · obtain ⟨s', n', S', _⟩ := z
    exact hG H' S'.fr
  · obtain ⟨s', n', S', q'⟩ := z
    obtain ⟨k2, d, ed, rd⟩ := hY i H' x H2 n' _ hi S'.fr S'.st (hF S') y
    rw [drop_get ed] at q'
    have S2 := S'.step (KpS.all k2.1) (S'.st.kp k2)
    refine fg aS A0 _ σ' H2 s' n' d x _ _ S2 rd q' fun σ3 s3 S3 _ _ a3 q3 => ?_
    exact fb aS A0 _ σ3 H2 s3 n' xq { de with nx := fun s2 n2 => sForL g mb xq de (ds.drop (i + 1)) s2 n2, ct := fun s2 n2 => sForL g mb xq de (ds.drop (i + 1)) s2 n2, bk := de.nx } _ S3 (L.base le) ⟨fun σ4 H4 s4 n4 S4 q4 => ⟨s4, n4, S4, q4⟩, (k.base le).rt, fun σ4 H4 s4 n4 S4 q4 => k.nx σ4 H4 s4 n4 (S4.back le) q4, fun σ4 H4 s4 n4 S4 q4 => ⟨s4, n4, S4, q4⟩⟩ q3
  · obtain ⟨s', n', S', q'⟩ := z
    rw [List.drop_length] at q'
    exact k.nx σ' H' s' n' (S'.back le) q'
theorem lc_fin {own : List (Str × Nat)} {ws : List Nat} {gt : TG} {tt : TT} {te : TE} (mnt : Mn mt) (mne : Mn me) (fg : GSem X OB ws g gt) (ft : TSem X E OB mt tt) (fe : ESem X E OB me te) (hown : ∀ j ∈ own.map (·.2), j ∉ OB) (hws : ∀ j ∈ ws, j ∈ own.map (·.2))
    {aS : Addr} {A0 A1 : A0T} {H0 H H1 : Hp} {σ : L2.St} {s : Ev} {n1 : Nat} {ds : List D} {J : It} {Q : VK} (kp : KpS aS H H1) (st : StA X.K aS H1 n1) (eA : AV aS A1 OB σ = AV aS A0 O σ) (S1 : SR X.K aS OB A1 H0 σ H1 (hideL s hid) n1) (it : ItOk X.K aS A1 ds J (bare OB σ H1)) (hlim : ds.length ≤ LIM)
    (q : sLcL g mt me (fun _ _ => False) (hideL s (own.map (·.2) ++ hid)) ds n1 [] fun xs n2 => ∀ a H', H a = none → KpS aS H H' → StA X.K aS H' n2 → Own X.K aS H' (fun b => AV aS A0 O σ b ∨ b = a) a (.lst xs) → Q (.ref a) H') : LcW J gt tt te (own.map (·.2)) σ H1 Q := by
  have LF : ∀ A1, LX X.K E aS A1 H0 (fun _ _ => False) := fun _ _ _ _ _ _ _ _ _ z => z.elim
  intro Dn hD
  obtain ⟨G, Y, w, hG, hY⟩ := it
  have hDs : Dn ≠ aS := fun z => by
    obtain ⟨xs, e⟩ := st.lst
    rw [z, e] at hD
    cases hD
  have hD0 : H0 Dn = none := Option.eq_none_iff_forall_ne_some.mpr fun u z => by
    exact (KpS.gone S1.fr hD z (hDs)).elim
  have hDH : H Dn = none := Option.eq_none_iff_forall_ne_some.mpr fun u z => by
    exact (KpS.gone kp hD z (hDs)).elim
  have S2 : SR X.K aS OB ⟨fun b => A1 b ∨ b = Dn, A1.z⟩ H0 (L2.wipe σ (own.map (·.2))) (upd H1 Dn (.lst [])) (hideL s (own.map (·.2) ++ hid)) n1 := by
    rw [hideL_append]
    exact (SR.wipe hown S1).laidA hD
  have hFar : ∀ {σ'}, AV aS (fun b => A1 b ∨ b = Dn) OB σ' = AV aS (fun b => A1 b ∨ b = Dn) OB σ → Far aS A1 (bare OB σ H1) (AV aS (fun b => A1 b ∨ b = Dn) OB σ') := fun {σ'} e => by
    rw [e]
    refine ⟨AV.st, fun b z => ?_⟩
    rcases z with (z | z) | z | z
    · exact .inl z
    · refine .inr (.inr ?_)
      by_cases y : ∃ i, i ∈ OB ∧ σ[i]? = some (some (.ref b))
      · exact bare_own y
      · rw [bare_not y, z]; exact hD
    · exact .inr (.inl z)
    · exact .inr (.inr (bare_own z))
  have eW : AV aS (fun b => A1 b ∨ b = Dn) OB (L2.wipe σ (own.map (·.2))) = AV aS (fun b => A1 b ∨ b = Dn) OB σ := AV.wipe hown
  have kb : ∀ {H'}, KpS aS H1 H' → KpS aS (bare OB σ H1) H' := fun {H'} k b u e z => k b u (bare_some e) z
  refine lc_it w (fun i H' => ∃ n' acc xs, SR X.K aS OB ⟨fun b => A1 b ∨ b = Dn, A1.z⟩ H0 (L2.wipe σ (own.map (·.2))) H' (hideL s (own.map (·.2) ++ hid)) n' ∧ KpS aS H1 H' ∧ H' Dn = some (.lst xs) ∧ RepL X.K aS H' (AV aS (fun b => A1 b ∨ b = Dn) OB σ) acc xs ∧ acc.length ≤ i ∧
      sLcL g mt me (fun _ _ => False) (hideL s (own.map (·.2) ++ hid)) (ds.drop i) n' acc (fun xs n2 => ∀ a H', H a = none → KpS aS H H' → StA X.K aS H' n2 → Own X.K aS H' (fun b => AV aS A0 O σ b ∨ b = a) a (.lst xs) → Q (.ref a) H'))
    ⟨n1, [], [], S2, KpS.upd hD, upd_same, RepL.nil, Nat.zero_le _, q⟩ (fun i H' _ z => ?_) (fun i x H' H2 hi z y => ?_) (fun H' z => ?_)
  · obtain ⟨n', acc, xs, _, k1, _⟩ := z
    exact hG H' (kb k1)
  · obtain ⟨n', acc, xs, S', k1, hd, rl, hl, q'⟩ := z
    obtain ⟨k2, d, ed, rd⟩ := hY i H' x H2 n' _ hi (kb k1) S'.st (hFar eW) y
    rw [drop_get ed] at q'
    have S3 := S'.step (KpS.all k2.1) (S'.st.kp k2)
    refine fg aS _ H0 _ H2 _ n' d x _ _ S3 rd q' fun σ3 s3 S4 l3 o3 a3 q3 => ?_
    refine ⟨?_, ft aS _ H0 σ3 H2 s3 n' (fun _ _ => False) _ S4 (LF _) (mnt _ _ _ _ _ (fun c n2 q4 H3 k3 st3 => ?_) q3)⟩
    · have e1 := wipe_eq (vs := own.map (·.2)) l3 fun j hj => o3 j fun z => hj (hws j z)
      rw [e1]
      exact wipe_eq (wipe_length _ _) fun j hj => wipe_out hj
    · have kk : KpS aS H' H3 := (KpS.all k2.1).trans k3
      cases c with
      | true =>
        rw [if_pos rfl] at q4 ⊢
        refine fe aS _ H0 σ3 H3 s3 n2 (fun _ _ => False) _ (S4.step k3 st3) (LF _) (mne _ _ _ _ _ (fun y n3 q5 v H4 k4 st4 r4 => ?_) q4)
        have k5 := kk.trans k4
        refine ⟨xs, k5.lst hd hDs, ?_, n3, acc ++ [y], xs ++ [v], ?_, KpS.upd2 (k1.trans k5) hD, upd_same, ?_, by rw [List.length_append]; exact Nat.succ_le_succ hl, q5⟩
        · rw [rl.length]
          exact Nat.lt_of_le_of_lt hl (lim_lt (Nat.lt_of_lt_of_le hi hlim))
        · exact (S'.step k5 st4).poke (.inr rfl) hDs (k5.lst hd hDs) hD0 (fun _ z => nomatch z) (fun _ _ z => nomatch z)
        · have e2 : AV aS (fun b => A1 b ∨ b = Dn) OB σ3 = AV aS (fun b => A1 b ∨ b = Dn) OB σ := a3.trans eW
          rw [e2] at r4
          exact RepL.mono (sub_poke (A := AV aS (fun b => A1 b ∨ b = Dn) OB σ) (.inl (.inr rfl)) (k5.lst hd hDs) (fun _ z => nomatch z)) _ _ ((rl.kp k5 S'.st AV.st).app (RepL.cons r4 RepL.nil))
      | false =>
        rw [if_neg (by decide)] at q4 ⊢
        exact ⟨n2, acc, xs, S'.step kk st3, k1.trans kk, kk.lst hd hDs, rl.kp kk S'.st AV.st, Nat.le_succ_of_le hl, q4⟩
  · obtain ⟨n', acc, xs, S', k1, hd, rl, hl, q'⟩ := z
    rw [List.drop_length] at q'
    refine q' Dn H' hDH (kp.trans k1) S'.st ⟨xs, hd, ?_⟩
    rw [AV.plus, eA] at rl
    exact rl
end
end DL
namespace DL
open PySem PySem.Spec PyProof.Rows L2
variable [TabC]
/-! ### dict comprehensions -/
def sDcL (g : DG) (mt : EM Bool) (mk me : EM D) (xq : XQ) (s0 : Ev) : List D → Nat → List (Key × D) → (List (Key × D) → Nat → Prop) → Prop
  | [], n, acc, Q => Q acc n
  | d :: ds, n, acc, Q => g d s0 fun s1 => mt xq s1 n fun c n1 => if c = true then mk xq s1 n1 fun k n2 => me xq s1 n2 fun x n3 => ∃ kk, keyD k = some kk ∧ sDcL g mt mk me xq s0 ds n3 (putD acc kk x) Q else sDcL g mt mk me xq s0 ds n1 acc Q
section
variable {X : Cx} {E : XK} {O OB OL vs hid : List Nat} {tg e iter kx : Expr} {ifs : List Expr} {m me mk : EM D} {mi : EM (List D)} {mt : EM Bool} {mb : SM} {g : DG} {scope : Scope} {pos : Pos}
theorem mn_dcL (h1 : Mn mt) (hk : Mn mk) (h2 : Mn me) (h3 : ∀ d s Q Q', (∀ s', Q s' → Q' s') → g d s Q → g d s Q') {xq : XQ} {s0 : Ev} : ∀ (ds : List D) (n : Nat) (acc : List (Key × D)) (Q Q' : List (Key × D) → Nat → Prop), (∀ x n, Q x n → Q' x n) → sDcL g mt mk me xq s0 ds n acc Q → sDcL g mt mk me xq s0 ds n acc Q'
  | [], n, acc, Q, Q', hq, h => hq _ _ h
  | d :: ds, n, acc, Q, Q', hq, h => h3 _ _ _ _ (fun s1 h => h1 _ _ _ _ _ (fun c n1 h => by
      cases c with
      | true => exact hk _ _ _ _ _ (fun k n2 h => h2 _ _ _ _ _ (fun x n3 ⟨kk, e, h⟩ => ⟨kk, e, mn_dcL h1 hk h2 h3 ds n3 _ Q Q' hq h⟩) h) h
      | false => exact mn_dcL h1 hk h2 h3 ds n1 _ Q Q' hq h) h) h
theorem dc_fin {own : List (Str × Nat)} {ws : List Nat} {gt : TG} {tt : TT} {tk te : TE} (mnt : Mn mt) (mnk : Mn mk) (mne : Mn me) (fg : GSem X OB ws g gt) (ft : TSem X E OB mt tt) (fk : ESem X E OB mk tk) (fe : ESem X E OB me te) (hown : ∀ j ∈ own.map (·.2), j ∉ OB) (hws : ∀ j ∈ ws, j ∈ own.map (·.2))
    {aS : Addr} {A0 A1 : A0T} {H0 H H1 : Hp} {σ : L2.St} {s : Ev} {n1 : Nat} {ds : List D} {J : It} {Q : VK} (kp : KpS aS H H1) (st : StA X.K aS H1 n1) (eA : AV aS A1 OB σ = AV aS A0 O σ) (S1 : SR X.K aS OB A1 H0 σ H1 (hideL s hid) n1) (it : ItOk X.K aS A1 ds J (bare OB σ H1)) (hlim : ds.length ≤ LIM)
    (q : sDcL g mt mk me (fun _ _ => False) (hideL s (own.map (·.2) ++ hid)) ds n1 [] fun xs n2 => ∀ a H', H a = none → KpS aS H H' → StA X.K aS H' n2 → Own X.K aS H' (fun b => AV aS A0 O σ b ∨ b = a) a (.dic xs) → Q (.ref a) H') : DcW J gt tt tk te (own.map (·.2)) σ H1 Q := by
  have LF : ∀ A1, LX X.K E aS A1 H0 (fun _ _ => False) := fun _ _ _ _ _ _ _ _ _ z => z.elim
  obtain ⟨G, Y, w, hG, hY⟩ := it
  refine dc_walk w fun Dn hD => ?_
  have hDs : Dn ≠ aS := fun z => by
    obtain ⟨xs, e⟩ := st.lst
    rw [z, e] at hD
    cases hD
  have hD0 : H0 Dn = none := Option.eq_none_iff_forall_ne_some.mpr fun u z => by
    exact (KpS.gone S1.fr hD z (hDs)).elim
  have hDH : H Dn = none := Option.eq_none_iff_forall_ne_some.mpr fun u z => by
    exact (KpS.gone kp hD z (hDs)).elim
  have S2 : SR X.K aS OB ⟨fun b => A1 b ∨ b = Dn, A1.z⟩ H0 (L2.wipe σ (own.map (·.2))) (upd H1 Dn (.dK [])) (hideL s (own.map (·.2) ++ hid)) n1 := by
    rw [hideL_append]
    exact (SR.wipe hown S1).laidA hD
  have hFar : ∀ {σ'}, AV aS (fun b => A1 b ∨ b = Dn) OB σ' = AV aS (fun b => A1 b ∨ b = Dn) OB σ → Far aS A1 (bare OB σ H1) (AV aS (fun b => A1 b ∨ b = Dn) OB σ') := fun {σ'} e => by
    rw [e]
    refine ⟨AV.st, fun b z => ?_⟩
    rcases z with (z | z) | z | z
    · exact .inl z
    · refine .inr (.inr ?_)
      by_cases y : ∃ i, i ∈ OB ∧ σ[i]? = some (some (.ref b))
      · exact bare_own y
      · rw [bare_not y, z]; exact hD
    · exact .inr (.inl z)
    · exact .inr (.inr (bare_own z))
  have eW : AV aS (fun b => A1 b ∨ b = Dn) OB (L2.wipe σ (own.map (·.2))) = AV aS (fun b => A1 b ∨ b = Dn) OB σ := AV.wipe hown
  have kb : ∀ {H'}, KpS aS H1 H' → KpS aS (bare OB σ H1) H' := fun {H'} k b u e z => k b u (bare_some e) z
  refine ⟨(fun i H' => ∃ n' acc xs, SR X.K aS OB ⟨fun b => A1 b ∨ b = Dn, A1.z⟩ H0 (L2.wipe σ (own.map (·.2))) H' (hideL s (own.map (·.2) ++ hid)) n' ∧ KpS aS H1 H' ∧ H' Dn = some (.dK xs) ∧ RepK X.K aS H' (AV aS (fun b => A1 b ∨ b = Dn) OB σ) acc xs ∧ acc.length ≤ i ∧
      sDcL g mt mk me (fun _ _ => False) (hideL s (own.map (·.2) ++ hid)) (ds.drop i) n' acc (fun xs n2 => ∀ a H', H a = none → KpS aS H H' → StA X.K aS H' n2 → Own X.K aS H' (fun b => AV aS A0 O σ b ∨ b = a) a (.dic xs) → Q (.ref a) H'))
    , ⟨n1, [], [], S2, KpS.upd hD, upd_same, RepK.nil, Nat.zero_le _, q⟩, (fun i H' _ z => ?_), (fun i x H' H2 hi z y => ?_), (fun H' z => ?_)⟩
  · obtain ⟨n', acc, xs, _, k1, _⟩ := z
    exact hG H' (kb k1)
  · obtain ⟨n', acc, xs, S', k1, hd, rl, hl, q'⟩ := z
    obtain ⟨k2, d, ed, rd⟩ := hY i H' x H2 n' _ hi (kb k1) S'.st (hFar eW) y
    rw [drop_get ed] at q'
    have S3 := S'.step (KpS.all k2.1) (S'.st.kp k2)
    refine fg aS _ H0 _ H2 _ n' d x _ _ S3 rd q' fun σ3 s3 S4 l3 o3 a3 q3 => ?_
    refine ⟨?_, ft aS _ H0 σ3 H2 s3 n' (fun _ _ => False) _ S4 (LF _) (mnt _ _ _ _ _ (fun c n2 q4 H3 k3 st3 => ?_) q3)⟩
    · have e1 := wipe_eq (vs := own.map (·.2)) l3 fun j hj => o3 j fun z => hj (hws j z)
      rw [e1]
      exact wipe_eq (wipe_length _ _) fun j hj => wipe_out hj
    · have kk : KpS aS H' H3 := (KpS.all k2.1).trans k3
      cases c with
      | true =>
        rw [if_pos rfl] at q4 ⊢
        refine fk aS _ H0 σ3 H3 s3 n2 (fun _ _ => False) _ (S4.step k3 st3) (LF _) (mnk _ _ _ _ _ (fun yk n3 q5 vk H4 k4 st4 r4 => ?_) q4)
        refine fe aS _ H0 σ3 H4 s3 n3 (fun _ _ => False) _ (S4.step (k3.trans k4) st4) (LF _) (mne _ _ _ _ _ (fun y n4 q6 v H5 k5 st5 r5 => ?_) q5)
        have k6 := (kk.trans k4).trans k5
        obtain ⟨key, hk, q6⟩ := q6
        refine ⟨xs, key, key_rep hk (r4.b AV.st), k6.dk hd hDs, ?_, n4, putD acc key y, putK xs key v, ?_, KpS.upd2 (k1.trans k6) hD, upd_same, ?_, Nat.le_trans (putD_len _ _ _) (Nat.succ_le_succ hl), q6⟩
        · rw [rl.length]
          exact Nat.lt_of_le_of_lt hl (lim_lt (Nat.lt_of_lt_of_le hi hlim))
        · exact (S'.step k6 st5).poke (.inr rfl) hDs (k6.dk hd hDs) hD0 (fun _ z => nomatch z) (fun _ _ z => nomatch z)
        · have e2 : AV aS (fun b => A1 b ∨ b = Dn) OB σ3 = AV aS (fun b => A1 b ∨ b = Dn) OB σ := a3.trans eW
          rw [e2] at r5
          exact RepK.mono (sub_poke (A := AV aS (fun b => A1 b ∨ b = Dn) OB σ) (.inl (.inr rfl)) (k6.dk hd hDs) (fun _ z => nomatch z)) _ _ ((rl.kp k6 S'.st AV.st).put key r5)
      | false =>
        rw [if_neg (by decide)] at q4 ⊢
        exact ⟨n2, acc, xs, S'.step kk st3, k1.trans kk, kk _ _ hd hDs, rl.kp kk S'.st AV.st, Nat.le_succ_of_le hl, q4⟩
  · obtain ⟨n', acc, xs, S', k1, hd, rl, hl, q'⟩ := z
    rw [List.drop_length] at q'
    refine q' Dn H' hDH (kp.trans k1) S'.st ⟨xs, hd, ?_⟩
    rw [AV.plus, eA] at rl
    exact rl
def eDc (mi : EM (List D)) (hs : List Nat) (g : DG) (mt : EM Bool) (mk me : EM D) : EM D := fun xq s n Q => mi xq s n fun ds n1 => ds.length ≤ LIM ∧ sDcL g mt mk me (fun _ _ => False) (hideL s hs) ds n1 [] fun xs n2 => Q (.dic xs) n2
theorem vf_dc {own : List (Str × Nat)} {ws : List Nat} (hc : X.calm = true) (hN : X.N.Nodup) (hi : VI X E O OB hid tg iter mi) (ok : BlkOk X.N X.env.scope scope own) (hown : ∀ j ∈ own.map (·.2), j ∉ OB) (hws : ∀ j ∈ ws, j ∈ own.map (·.2))
    (hg : ∀ c : Bk, VG (Cx.bk X scope c) OB ws tg g) (ht : ∀ c : Bk, VTs (Cx.bk X scope c) EF OB ifs mt) (hk : ∀ c : Bk, VE (Cx.bk X scope c) EF OB kx mk) (he : ∀ c : Bk, VE (Cx.bk X scope c) EF OB e me) (hs : ∀ x, foldedSetIterable iter X.env x = pure x := by intro _; rfl) :
    VF X E O (.DictComp kx e [⟨tg, iter, ifs, 0⟩] scope pos) (eDc mi (own.map (·.2) ++ hid) g mt mk me) := by
  have mnt := (ht bk0).1
  have mne := (he bk0).1
  have mnk := (hk bk0).1
  have mng := (hg bk0).1
  obtain ⟨mni, wi, pi, fi⟩ := hi
  obtain ⟨gt, pg, fg⟩ := VG.all hg
  obtain ⟨tt, pt, ft⟩ := VTs.all ht
  obtain ⟨tk, pk, fk⟩ := VX.all hk
  obtain ⟨te, pe, fe⟩ := VX.all he
  refine ⟨fun xq s n Q Q' hq h => mni _ _ _ _ _ (fun ds n1 h => ⟨h.1, mn_dcL mnt mnk mne mng _ _ _ _ _ (fun x n2 => hq _ _) h.2⟩) h, _, pe_dc hc hN pi ok (fun s H C cl fp => pg (s, H, C, cl, fp)) (fun s H C cl fp => pt (s, H, C, cl, fp)) (fun s H C cl fp => pk (s, H, C, cl, fp)) (fun s H C cl fp => pe (s, H, C, cl, fp)) hs, fun aS A0 H0 σ H s n xq Q S L hm => ?_⟩
  refine fi aS A0 H0 σ H s n xq _ S L (mni _ _ _ _ _ (fun ds n1 q J H1 A1 kp st eA S1 it => ?_) hm)
  exact dc_fin mnt mnk mne fg ft fk fe hown hws kp st eA S1 it q.1 q.2
/-! ### over a dict -/
/-- iter walks the dict at a path -/
def VD (X : Cx) (O : List Nat) (tg iter : Expr) (p : Ev → Option D) (f : List (Key × D) → List D) : Prop := ∃ (pv : L2.St → Hp → V → Prop) (J : Addr → Obj → List (Key × V) → It), PI X tg iter (fun σ H R => ∃ d o kvs, pv σ H (.ref d) ∧ H d = some (.frz o (.dK kvs)) ∧ R (J d o kvs) H) ∧
  (∀ (aS : Addr) (A0 : A0T) (H0 : Hp) (σ : L2.St) (H : Hp) (s : Ev) (n : Nat) (d : D), SR X.K aS O A0 H0 σ H s n → p s = some d → ∃ v, pv σ H v ∧ Rep X.K aS H (AV aS A0 O σ) d v) ∧
  (∀ σ H b o u v, H b = some u → Plain0 u → pv σ H v → pv σ (upd H b (.frz o u)) v) ∧
  ∀ (aS : Addr) (A0 : A0T) (H0 : Hp) (σ : L2.St) (H : Hp) (s : Ev) (n : Nat) b o ys kvs, SR X.K aS O A0 H0 σ H s n → ¬ AV aS A0 O σ b → H b = some (.frz o (.dK ys)) → RepK X.K aS H (AV aS A0 O σ) kvs ys → ItOk X.K aS A0 (f kvs) (J b o ys) (bare O σ H)
def keysD (kvs : List (Key × D)) : List D := (kvs.map (·.1)).map kD
def itemsD (kvs : List (Key × D)) : List D := kvs.map fun kv => .tup [kD kv.1, kv.2]
theorem RepK.at {K : PySem.W.Frag} {aS : Addr} {H : Hp} {A : AS} : ∀ {ds : List (Key × D)} {vs : List (Key × V)} {i : Nat} {k : Key} {v : V}, RepK K aS H A ds vs → vs[i]? = some (k, v) → ∃ d, ds[i]? = some (k, d) ∧ Rep K aS H A d v
  | [], vs, i, k, v, h, e => by rw [RepK] at h; rw [h] at e; simp at e
  | (k', d) :: ds, vs, i, k, v, h, e => by
    rw [RepK] at h
    obtain ⟨v', vr, ev, r, q⟩ := h
    subst ev
    cases i with
    | zero =>
      simp at e
      obtain ⟨e1, e2⟩ := e
      subst e1 e2
      exact ⟨d, rfl, r⟩
    | succ i => exact RepK.at (ds := ds) (vs := vr) (i := i) q (by simpa using e)
theorem frz_on {K : PySem.W.Frag} {aS b : Addr} {A0 : AS} {H H1 : Hp} {σ : L2.St} {o : Obj} {v : HO} (hn : ¬ AV aS A0 O σ b) (hb : H b = some (.frz o v)) (k : KpS aS (bare O σ H) H1) : H1 b = some (.frz o v) :=
  k b (.frz o v) ((bare_not fun z => hn (.inr (.inr z))).trans hb) fun z => hn (.inr (.inl z))
theorem vd_keys {p : Ev → Option D} (h : VP X O e p) : VD X O tg e p keysD := by
  obtain ⟨t, pe, pv, h1, h2, h3⟩ := h
  refine ⟨pv, Itk, ⟨fun pins s σ H R I ⟨d, o, kvs, e1, e2, q⟩ => (pi_keys pe).run pins s σ H R I (h1 σ H _ _ e1 ⟨d, o, rfl, .inl ⟨kvs, e2, q⟩⟩)⟩, h2, h3, fun aS A0 H0 σ H s n b o ys kvs S hn hb r => ?_⟩
  have hl : (keysD kvs).length = ys.length := by rw [keysD, List.length_map, List.length_map, r.length]
  refine ⟨_, _, hl ▸ walk_keys, fun H1 k => frz_on (K := X.K) hn hb k, fun i H1 x H2 n A hi k st hF y => ?_⟩
  obtain ⟨e, kk, v, ek, ex⟩ := y
  subst e ex
  refine ⟨Gr.refl _, kD kk, ?_, rep_kD kk⟩
  have e2 : (ys.map (·.1))[i]? = some kk := by rw [List.getElem?_map, ek]; rfl
  rw [r.keys] at e2
  rw [keysD, List.getElem?_map, e2]
  rfl
theorem vd_items {p : Ev → Option D} {elts : List Expr} {kk : Nat} {tpos apos cpos : Pos} (h : VP X O e p) (hbase : attributeBase e "items" X.env (eval e X.env) = eval e X.env := by rfl) (hline : (apos.endLine == cpos.line) = true := by rfl) : VD X O (.Tuple elts kk tpos) (.Call (.Attribute e "items" apos) [] [] cpos) p itemsD := by
  obtain ⟨t, pe, pv, h1, h2, h3⟩ := h
  refine ⟨pv, Iti, ⟨fun pins s σ H R I ⟨d, o, kvs, e1, e2, q⟩ => (pi_items pe hbase hline).run pins s σ H R I (h1 σ H _ _ e1 ⟨d, o, kvs, rfl, e2, q⟩)⟩, h2, h3, fun aS A0 H0 σ H s n b o ys kvs S hn hb r => ?_⟩
  refine it_ypair walk_items (by rw [itemsD, List.length_map, r.length]) (fun H1 k => frz_on (K := X.K) hn hb k) fun i H1 A x y hi k hF ex ey => ?_
  cases e : ys[i]? with
  | none => rw [e] at ex; cases ex
  | some kv =>
    rw [e] at ex ey
    cases ex
    cases ey
    obtain ⟨d, ed, rd⟩ := RepK.at (RepK.mono (S.onBase k hF) _ _ r) e
    refine ⟨kD kv.1, d, ?_, rep_kD _, rd⟩
    rw [itemsD, List.getElem?_map, ed]
    rfl
theorem kp_unlock {aS b : Addr} {H H' : Hp} {o : Obj} {ys : List (Key × V)} (hb : H b = some (.dK ys)) (k : KpS aS (upd H b (.frz o (.dK ys))) H') : KpS aS H (upd H' b (.dK ys)) := fun c u e z => by
  by_cases y : c = b
  · rw [y, hb] at e
    cases e
    rw [y]
    exact upd_same
  · rw [upd_ne y]
    exact k c u (by rw [upd_ne y]; exact e) z
theorem LK.unlock {K : PySem.W.Frag} {aS b : Addr} {A0 : A0T} {H0 H : Hp} {σ : L2.St} {s : Ev} {n : Nat} {o : Obj} {ys : List (Key × V)} {de : DE} {De : Ends} {O O' : List Nat} (S : SR K aS O A0 H0 σ H s n) (hn : ¬ AV aS A0 O σ b) (hb : H b = some (.dK ys)) (k : LK K aS O' OL A0 H0 de De) :
    LK K aS O' OL A0 (bare O σ (upd H b (.frz o (.dK ys)))) de ⟨fun σ' H' => H' b = some (.frz o (.dK ys)) ∧ De.nx σ' (upd H' b (.dK ys)), fun v H' => H' b = some (.frz o (.dK ys)) ∧ De.rt v (upd H' b (.dK ys)), fun σ' H' => H' b = some (.frz o (.dK ys)) ∧ De.bk σ' (upd H' b (.dK ys)), fun σ' H' => H' b = some (.frz o (.dK ys)) ∧ De.ct σ' (upd H' b (.dK ys))⟩ where
  nx := fun σ' H' s' n' S' q => ⟨S.atL hn hb S'.fr, k.nx _ _ _ _ (S.unlock hn hb S') q⟩
  rt := fun v H' d n' kp st r q => ⟨S.atL hn hb kp, k.rt _ _ _ _ (S.unkp hb kp) (st.unlock (S.atL hn hb kp)) (Rep.mono (sub_unlock (S.atL hn hb kp)) _ _ r) q⟩
  bk := fun σ' H' s' n' S' q => ⟨S.atL hn hb S'.fr, k.bk _ _ _ _ (S.unlock hn hb S') q⟩
  ct := fun σ' H' s' n' S' q => ⟨S.atL hn hb S'.fr, k.ct _ _ _ _ (S.unlock hn hb S') q⟩
theorem ps_or {st : Stmt} {t u : TS} (h : PS X st t) (h' : PS X st u) : PS X st (fun D σ H => t D σ H ∨ u D σ H) := ⟨fun pins s σ H D I q => q.elim (h.run pins s σ H D I) (h'.run pins s σ H D I)⟩
theorem pe_or {t u : TE} (h : PE X e t) (h' : PE X e u) : PE X e (fun σ H Q => t σ H Q ∨ u σ H Q) := ⟨fun pins s σ H D I q => q.elim (h.run pins s σ H D I) (h'.run pins s σ H D I)⟩
/-- locked at d -/
def tLockAt (d : Addr) (u : HO) (t : TS) : TS := fun D σ H => ∀ od, t ⟨fun σ' H' => H' d = some (.frz od u) ∧ D.nx σ' (upd H' d u), fun v H' => H' d = some (.frz od u) ∧ D.rt v (upd H' d u), fun σ' H' => H' d = some (.frz od u) ∧ D.bk σ' (upd H' d u), fun σ' H' => H' d = some (.frz od u) ∧ D.ct σ' (upd H' d u)⟩ σ (upd H d (.frz od u))
def sForD (p : Ev → Option D) (f : List (Key × D) → List D) (g : DG) (mb : SM) : SM := fun xq de s n => ∃ kvs, p s = some (.dic kvs) ∧ sForL g mb xq de (f kvs) s n
/-- a statement while the thing at d is locked; d was not locked at the def's entry -/
theorem ps_lockN {st : Stmt} {t : TS} (h : PS X st t) : PS X st (fun D σ H => ∃ d u, H d = some u ∧ Mut (some u) ∧ ((∀ o' u', X.H_0 d ≠ some (.frz o' u')) → tLockAt d u t D σ H)) := by
  refine ⟨fun pins s σ H D I hw => ?_⟩
  obtain ⟨d, u, hd, mu, hw⟩ := hw
  have z : tLock t D σ H := ⟨d, u, hd, mu, hw (I.nofrz hd mu)⟩
  exact (ps_lock h).run pins s σ H D I z
theorem LX.unlock {K : PySem.W.Frag} {aS b : Addr} {A0 : A0T} {H0 H : Hp} {σ : L2.St} {s : Ev} {n : Nat} {o : Obj} {ys : List (Key × V)} {O : List Nat} {xq : XQ} (uc : UC X E) (hz : ∀ o' u', X.H_0 b ≠ some (.frz o' u')) (S : SR K aS O A0 H0 σ H s n) (hn : ¬ AV aS A0 O σ b) (hb : H b = some (.dK ys)) (L : LX K E aS A0 H0 xq) :
    LX K E aS A0 (bare O σ (upd H b (.frz o (.dK ys)))) xq := fun C fs n' d H' kp st r q => by
  have hl := S.atL hn hb kp
  refine uc _ _ _ b o _ hl hz (L C fs n' d _ (S.unkp hb kp) (st.unlock hl) ?_ q)
  cases d with
  | none => exact r
  | some a =>
    obtain ⟨zs, h1, h2, h3⟩ := r
    have hab : a ≠ b := fun z => by rw [z, hl] at h2; cases h2
    refine ⟨zs, ?_, by rw [upd_ne hab]; exact h2, RepF.mono (sub_unlock hl) _ _ h3⟩
    cases e : H0 a with
    | none => rfl
    | some u =>
      have hs : a ≠ aS := fun z => by
        obtain ⟨xs, q⟩ := st.lst
        rw [z, q] at h2
        cases h2
      have no : ¬ ∃ i, i ∈ O ∧ σ[i]? = some (some (.ref a)) := fun ⟨i, hi, ei⟩ => by
        obtain ⟨d1, a1, z1, z2, z3, _⟩ := S.ow i hi
        rw [ei] at z2
        cases z2
        rw [e] at z3
        cases z3
      rw [bare_not no, upd_ne hab] at h1
      exact (KpS.gone S.fr h1 e hs).elim
theorem vs_forD {p : Ev → Option D} {f : List (Key × D) → List D} {body : List Stmt} (uc : UC X E) (hp : PassesOwn (model X.prog X.w) X.A X.env X.xe) (hc : X.calm = true) (hi : VD X O tg iter p f) (hg : VG X O vs tg g) (hb : VSs X E O O O body mb)
    (hs : ∀ x, foldedSetIterable iter X.env x = pure x := by intro _; rfl) : VS X E O O OL (.For tg iter body [] pos) (sForD p f g mb) := by
  obtain ⟨pv, J, pi, h2, h3, h4⟩ := hi
  obtain ⟨_, gt, pg, fg⟩ := hg
  obtain ⟨tb, pb, fb⟩ := hb
  have ps := ps_for (pos := pos) hp hc pi pg pb hs
  refine ⟨_, ps_or ps (ps_lockN ps), fun aS A0 H0 σ H s n xq de De S L k h => ?_⟩
  obtain ⟨kvs, e, q⟩ := h
  obtain ⟨v, ev, r⟩ := h2 aS A0 H0 σ H s n _ S e
  rw [Rep] at r
  obtain ⟨b, ys, eb, hn, hr, rk⟩ := r
  subst eb
  rcases hr with hr | ⟨o, hr⟩
  · refine .inr ⟨b, _, hr, trivial, fun hz od => ⟨b, od, ys, ?_, upd_same, ?_⟩⟩
    · exact h3 σ H b od _ _ hr plain_dK ev
    · have Sl := S.lock (o := od) hn hr
      exact for_fin fg fb Sl (LX.unlock uc hz S hn hr L) (k.unlock S hn hr) (h4 aS A0 _ σ _ s n b od ys kvs Sl hn upd_same (RepK.mono (sub_lock hr) _ _ rk)) q
  · exact .inl ⟨b, o, ys, ev, hr, for_fin fg fb S L k (h4 aS A0 H0 σ H s n b o ys kvs S hn hr rk) q⟩
def eLcD (p : Ev → Option D) (f : List (Key × D) → List D) (hs : List Nat) (g : DG) (mt : EM Bool) (me : EM D) : EM D := fun xq s n Q => ∃ kvs, p s = some (.dic kvs) ∧ (f kvs).length ≤ LIM ∧ sLcL g mt me (fun _ _ => False) (hideL s hs) (f kvs) n [] fun xs n2 => Q (.lst xs) n2
theorem vf_lcD {p : Ev → Option D} {f : List (Key × D) → List D} {own : List (Str × Nat)} {ws : List Nat} (hc : X.calm = true) (hN : X.N.Nodup) (hi : VD X O tg iter p f) (ok : BlkOk X.N X.env.scope scope own) (hown : ∀ j ∈ own.map (·.2), j ∉ O) (hws : ∀ j ∈ ws, j ∈ own.map (·.2))
    (hg : ∀ c : Bk, VG (Cx.bk X scope c) O ws tg g) (ht : ∀ c : Bk, VTs (Cx.bk X scope c) EF O ifs mt) (he : ∀ c : Bk, VE (Cx.bk X scope c) EF O e me) (hs : ∀ x, foldedSetIterable iter X.env x = pure x := by intro _; rfl) :
    VF X E O (.ListComp e [⟨tg, iter, ifs, 0⟩] scope pos) (eLcD p f (own.map (·.2) ++ []) g mt me) := by
  have mnt := (ht bk0).1
  have mne := (he bk0).1
  have mng := (hg bk0).1
  obtain ⟨pv, J, pi, h2, h3, h4⟩ := hi
  obtain ⟨gt, pg, fg⟩ := VG.all hg
  obtain ⟨tt, pt, ft⟩ := VTs.all ht
  obtain ⟨te, pe, fe⟩ := VX.all he
  have pl := pe_lc (pos := pos) hc hN pi ok (fun s H C cl fp => pg (s, H, C, cl, fp)) (fun s H C cl fp => pt (s, H, C, cl, fp)) (fun s H C cl fp => pe (s, H, C, cl, fp)) hs
  refine ⟨fun xq s n Q Q' hq ⟨kvs, e, h1, h⟩ => ⟨kvs, e, h1, mn_lcL mnt mne mng _ _ _ _ _ (fun x n2 => hq _ _) h⟩, _, pe_or pl (pe_lock pl), fun aS A0 H0 σ H s n xq Q S L hm => ?_⟩
  obtain ⟨kvs, e, hl, q⟩ := hm
  obtain ⟨v, ev, r⟩ := h2 aS A0 H0 σ H s n _ S e
  rw [Rep] at r
  obtain ⟨b, ys, eb, hn, hr, rk⟩ := r
  subst eb
  have nb : b ≠ aS := fun z => hn (.inr (.inl z))
  rcases hr with hr | ⟨o, hr⟩
  · refine .inr ⟨b, _, hr, trivial, fun od => ⟨b, od, ys, ?_, upd_same, ?_⟩⟩
    · exact h3 σ H b od _ _ hr plain_dK ev
    · have Sl := S.lock (o := od) hn hr
      refine lc_fin (Q := fun v H' => H' b = some (.frz od (.dK ys)) ∧ Q v (upd H' b (.dK ys))) (hid := []) (A0 := A0) mnt mne fg ft fe hown hws KpS.refl Sl.st rfl Sl (h4 aS A0 _ σ _ s n b od ys kvs Sl hn upd_same (RepK.mono (sub_lock hr) _ _ rk)) hl (mn_lcL mnt mne mng _ _ _ _ _ (fun xs n2 q a H' ha kp st ow => ?_) q)
      have hb' : H' b = some (.frz od (.dK ys)) := kp _ _ upd_same nb
      have nab : a ≠ b := fun z => by rw [z, upd_same] at ha; cases ha
      refine ⟨hb', q a _ (by rw [upd_ne nab] at ha; exact ha) (kp_unlock hr kp) (st.unlock hb') (ow.mv (sub_unlock hb') fun u e _ => by rw [upd_ne nab]; exact e)⟩
  · exact .inl ⟨b, o, ys, ev, hr, lc_fin (hid := []) (A0 := A0) mnt mne fg ft fe hown hws KpS.refl S.st rfl S (h4 aS A0 H0 σ H s n b o ys kvs S hn hr rk) hl q⟩
end
end DL
namespace DL
open PySem PySem.Spec PyProof.Rows L2
variable [TabC]
/-! ### defs that hand back a new object -/
def VSsF (X : Cx) (E : XK) (O : List Nat) (st : List Stmt) (m : SM) : Prop := ∃ t, PSs X st t ∧ ∀ (aS : Addr) (A0 : A0T) (H0 : Hp) (σ : L2.St) (H : Hp) (s : Ev) (n : Nat) (xq : XQ) (de : DE) (De : Ends), SR X.K aS O A0 H0 σ H s n → LX X.K E aS A0 H0 xq →
  (∀ a H' d n', H0 a = none → KpS aS H0 H' → StA X.K aS H' n' → Own X.K aS H' (fun b => AV aS A0 [] [] b ∨ b = a) a d → de.rt d n' → De.rt (.ref a) H') → m xq de s n → t De σ H
def sSeqF (m r : SM) : SM := fun xq de s n => m xq { nx := fun s' n' => r xq de s' n', rt := fun _ _ => False } s n
def liftF (K : PySem.W.Frag) (len : Nat) (sp : FSp) : Sp := fun vs H Q E => ∃ (aS : Addr) (A0 : AS) (ds : List D) (n : Nat) (xq : XQ), ds.length = len ∧ RepL K aS H (AV aS A0 [] []) ds vs ∧ StA K aS H n ∧ (∀ a, A0 a → ∃ u, H a = some u) ∧ LX K E aS A0 H xq ∧
  sp.run ds n (fun d n' => ∀ a H', H a = none → KpS aS H H' → StA K aS H' n' → Own K aS H' (fun b => AV aS A0 [] [] b ∨ b = a) a d → Q (.ref a) H') xq
section
variable {X : Cx} {E : XK} {O O' : List Nat} {e : Expr} {st : Stmt} {rest : List Stmt} {m : EM D} {ms mr : SM} {pos : Pos} {i : Nat}
theorem vssF_cons (h1 : VS X E O O' [] st ms) (h2 : VSsF X E O' rest mr) : VSsF X E O (st :: rest) (sSeqF ms mr) := by
  obtain ⟨t, p, f⟩ := h1
  obtain ⟨u, p2, f2⟩ := h2
  exact ⟨_, pss_cons p p2, fun aS A0 H0 σ H s n xq de De S L k h => f aS A0 H0 σ H s n xq { nx := fun s' n' => mr xq de s' n', rt := fun _ _ => False } _ S L ⟨fun σ' H' s' n' S' q => f2 aS A0 H0 σ' H' s' n' xq de De S' L k q, fun _ _ _ _ _ _ _ z => z.elim, fun _ _ _ _ _ z => z.elim, fun _ _ _ _ _ z => z.elim⟩ h⟩
theorem vssF_ret (h : VF X E O e m) : VSsF X E O [.Return (some e) pos] (sRet m) := by
  obtain ⟨mn, t, p, f⟩ := h
  refine ⟨_, pss_one (ps_ret p), fun aS A0 H0 σ H s n xq de De S L k h => f aS A0 H0 σ H s n xq _ S L (mn _ _ _ _ _ (fun d n' q a H' ha kp st o => k a H' d n' ?_ (S.fr.trans kp) st (o.mono fun b z => ?_) q) h)⟩
  · refine Option.eq_none_iff_forall_ne_some.mpr fun u z => ?_
    exact (KpS.gone S.fr ha z (fun y => S.new ha (.inr (.inl y)))).elim
  · exact z.elim (fun z => .inl (av_nil b z)) .inr
variable {P : Program} {w : World} {K : PySem.W.Frag} {mg : Str → Option Value} {base : Heap} {x qual : Str} {params : Arguments} {body : List Stmt} {scope : Scope} {dvs : List V} {kws : List (Str × V)} {f : Addr} {fd : FuncData}
theorem dfnF {N ps : List Str} {k : Nat} {sp : FSp} {m : SM} (F : FunD K x qual params body scope dvs kws f fd) (Sc : FnScope N ps scope)
    (hb : ∀ (cdv : Value) (A : Around) (outer : List Env) (s : Shared) (H : Hp) (E : XK), Room k (A.deeper (envOfC qual scope s.heap.objs.size f cdv)) → VSsF (cxOf (CX P w) P w K mg base N qual scope f cdv A outer s H E) (EU H E) [] body m)
    (hm : ∀ ds n Q xq, ds.length = ps.length → sp.run ds n Q xq → m xq { nx := fun _ _ => False, rt := Q } (startD N ds) n) : FnOk P w K mg base (CX P w) (k + 1) f fd ps (liftF K ps.length sp) := by
  refine F.ok Sc (fun vs H Q E h => ?_) (fun cdv A outer s H vs Q E hr h => ?_)
  · obtain ⟨aS, A0, ds, n, xq, hl, r, _⟩ := h
    rw [r.length, hl]
  · obtain ⟨aS, A0, ds, n, xq, hl, r, st, av, L, q⟩ := h
    obtain ⟨t, p, ft⟩ := hb cdv A outer s H E hr
    refine ⟨t, p, ft aS ⟨A0, none⟩ H _ H _ n xq _ _ (SR.start r st av) L.eu ?_ (hm ds n _ xq hl q)⟩
    exact fun a H' d n' ha kp st o q => q a H' ha kp st o
end
section
variable {X : Cx} {E : XK} {O : List Nat} {e : Expr} {es : List Expr} {ml : EM (List D)} {pos p : Pos} {x : Str} {f : Addr} {fd : FuncData} {ps : List Str} {k : Nat} {sp : FSp} {dds : List D} {dvs : List V} {us : List Value}
theorem SR.callF {K : PySem.W.Frag} {aS : Addr} {A0 : A0T} {H0 H : Hp} {σ : L2.St} {s : Ev} {n len : Nat} {ds : List D} {vs : List V} {xq : XQ} {Q : VK} (S : SR K aS O A0 H0 σ H s n) (L : LX K E aS A0 H0 xq) (hl : ds.length = len) (r : RepL K aS H (AV aS A0 O σ) ds vs)
    (q : sp.run ds n (fun d n' => ∀ a H', H a = none → KpS aS H H' → StA K aS H' n' → Own K aS H' (fun b => AV aS A0 O σ b ∨ b = a) a d → Q (.ref a) H') xq) : liftF K len sp vs H Q E := by
  have eA : AV aS (AV aS A0 O σ) [] [] = AV aS A0 O σ := AV.of AV.st
  refine ⟨aS, AV aS A0 O σ, ds, n, xq, hl, by rw [eA]; exact r, S.st, S.cn.dom, L.call S, ?_⟩
  rw [eA]
  exact q
end
end DL
namespace DL
open PySem PySem.Spec PyProof.Rows L2
variable [TabC]
/-! ### defs by their global names -/
def GFn (P : Program) (w : World) (K : PySem.W.Frag) (mg : Str → Option Value) (base : Heap) (x : Str) (k : Nat) (ps : List Str) (L : Sp) : Prop := ∃ f fd, mg x = some (.ref f) ∧ PySem.W.keepIn K (.ref f) = true ∧ Binds K fd ps [] ∧ FnOk P w K mg base (CX P w) k f fd ps L
theorem Room.le {k k' : Nat} {A : Around} (h : Room k' A) (hk : k ≤ k') : Room k A := ⟨h.hd, by have := h.dp; omega, by have := h.un; omega⟩
theorem Room.u {k : Nat} {A : Around} (h : Room k A) : A.units + 1 < cLine := by have := h.un; omega
theorem Room.u64 {k : Nat} {A : Around} (h : Room k A) : A.units + 64 < cLine := by have := h.un; omega
theorem Room.u65 {k : Nat} {A : Around} (h : Room k A) : A.units + 65 < cLine := by have := h.un; omega
section
variable {X : Cx} {E : XK} {O : List Nat} {e : Expr} {es : List Expr} {ml : EM (List D)} {pos p : Pos} {x : Str} {ps : List Str} {k k' : Nat} {sp : FSp}
theorem ve_g (tk : TK X E) {len : Nat} (hl : ps.length = len) (G : GFn X.prog X.w X.K X.mg X.base x k ps (lift X.K len sp)) (hr : Room k' X.A) (hk : k ≤ k') (hg : Gl X x) (ha : VA Rep X E O (e :: es) ml) (hdb : (x == ("__debug__" : Str)) = false := by decide)
    (he : starEach (e :: es) X.env = (false, eval e X.env) :: starEach es X.env := by rfl) (hpl : (backTo pos (starEach es X.env)).any (·.1) = false := by rfl) : VE X E O (.Call (.Name x p) (e :: es) [] pos) (eCall len sp [] ml) := by
  subst hl
  obtain ⟨f, fd, h1, h2, h3, h4⟩ := G
  exact ve_call tk h4 (DL.Room.le hr hk) hg h1 h2 h3 .nil (fun _ _ _ => RepL.nil) ha hdb he hpl
end
section
variable {P : Program} {w : World} {K : PySem.W.Frag} {mg : Str → Option Value} {base : Heap} {x : Str} {params : Arguments} {body : List Stmt} {scope : Scope} {f : Addr} {fd : FuncData}
/-- a call's own context -/
abbrev CxD (P : Program) (w : World) (K : PySem.W.Frag) (mg : Str → Option Value) (base : Heap) (N : List Str) (qual : Str) (scope : Scope) (f : Addr) (cdv : Value) (A : Around) (outer : List Env) (s : Shared) (H : Hp) (E : XK) : Cx := cxOf (CX P w) P w K mg base N qual scope f cdv A outer s H E
theorem cx_tk {N : List Str} {qual : Str} {scope : Scope} {f : Addr} {cdv : Value} {A : Around} {outer : List Env} {s : Shared} {H : Hp} {E : XK} : TK (CxD P w K mg base N qual scope f cdv A outer s H E) (EU H E) := tk_eu (X := CxD P w K mg base N qual scope f cdv A outer s H E) (takes_of rfl rfl rfl rfl)
theorem cx_po {N : List Str} {qual : Str} {scope : Scope} {f : Addr} {cdv : Value} {A : Around} {outer : List Env} {s : Shared} {H : Hp} {E : XK} : PassesOwn (model P w) (CxD P w K mg base N qual scope f cdv A outer s H E).A (CxD P w K mg base N qual scope f cdv A outer s H E).env (CxD P w K mg base N qual scope f cdv A outer s H E).xe := passes_of rfl
theorem cx_uc {N : List Str} {qual : Str} {scope : Scope} {f : Addr} {cdv : Value} {A : Around} {outer : List Env} {s : Shared} {H : Hp} {E : XK} : UC (CxD P w K mg base N qual scope f cdv A outer s H E) (EU H E) := uc_eu (X := CxD P w K mg base N qual scope f cdv A outer s H E)
def Body (P : Program) (w : World) (K : PySem.W.Frag) (mg : Str → Option Value) (base : Heap) (N : List Str) (qual : Str) (scope : Scope) (k : Nat) (O O' : List Nat) (body : List Stmt) (m : SM) : Prop :=
  ∀ (f : Addr) (cdv : Value) (A : Around) (outer : List Env) (s : Shared) (H : Hp) (E : XK), Room k (A.deeper (envOfC qual scope s.heap.objs.size f cdv)) → VSs (CxD P w K mg base N qual scope f cdv A outer s H E) (EU H E) O O' [] body m
def BodyF (P : Program) (w : World) (K : PySem.W.Frag) (mg : Str → Option Value) (base : Heap) (N : List Str) (qual : Str) (scope : Scope) (k : Nat) (body : List Stmt) (m : SM) : Prop :=
  ∀ (f : Addr) (cdv : Value) (A : Around) (outer : List Env) (s : Shared) (H : Hp) (E : XK), Room k (A.deeper (envOfC qual scope s.heap.objs.size f cdv)) → VSsF (CxD P w K mg base N qual scope f cdv A outer s H E) (EU H E) [] body m
def Meets (len : Nat) (N : List Str) (sp : FSp) (m : SM) : Prop := ∀ ds n Q xq, ds.length = len → sp.run ds n Q xq → m xq { nx := fun _ n' => Q .non n', rt := Q } (startD N ds) n
def MeetsF (len : Nat) (N : List Str) (sp : FSp) (m : SM) : Prop := ∀ ds n Q xq, ds.length = len → sp.run ds n Q xq → m xq { nx := fun _ _ => False, rt := Q } (startD N ds) n
def MeetsI (C : Str) (len : Nat) (N : List Str) (sp : FSp) (m : SM) : Prop := ∀ ds n Q xq, ds.length + 1 = len → sp.run ds n Q xq → m xq { nx := fun s' n' => ∃ fs, s'[0]? = some (some (.obj C fs)) ∧ Q (.obj C fs) n', rt := fun _ _ => False } (startD N (.obj C [] :: ds)) n
abbrev BindOk (x : Str) (params : Arguments) (body : List Stmt) (scope : Scope) (ps : List Str) : Prop := ∀ (kV doc pm : Value) (an : Option Addr) (cdv ct : Value) (us : List Value), us.length = ps.length → bindArgs (PySem.W.fnOf x x params body scope Value.none kV doc pm an cdv ct) { pos := us } = pure (ps.zip us)
theorem gfn {N ps : List Str} {k : Nat} {sp : FSp} {m : SM} {O' : List Nat} (F : FunD K x x params body scope [] [] f fd) (hg : mg x = some (.ref f)) (Sc : FnScope N ps scope) (hb : BindOk x params body scope ps)
    (B : Body P w K mg base N x scope k [] O' body m) (hm : Meets ps.length N sp m) : GFn P w K mg base x (k + 1) ps (lift K ps.length sp) :=
  ⟨f, fd, hg, F.kp, F.bindsN hb, dfn F Sc (fun cdv A outer s H E hr => B f cdv A outer s H E hr) hm⟩
end
end DL
namespace DL
open PySem PySem.Spec PyProof.Rows L2
variable [TabC]
/-! ### classes -/
def GMe (P : Program) (w : World) (K : PySem.W.Frag) (mg : Str → Option Value) (base : Heap) (C : Str) (m : Str) (k : Nat) (ps : List Str) (dds : List D) (L : Sp) : Prop := ∃ f fd us dvs, Cls K (He.ga K C) ∧ Meth K (He.ga K C) m f ∧ Binds K fd ps us ∧ Vals dvs us ∧ (∀ aS H A, RepL K aS H A dds dvs) ∧ FnOk P w K mg base (CX P w) k f fd ps L
section
variable {X : Cx} {E : XK} {O : List Nat} {e o : Expr} {es : List Expr} {mo : EM D} {ml : EM (List D)} {pos p apos : Pos} {x m : Str} {C : Str} {ps : List Str} {k k' : Nat} {sp : FSp} {dds : List D}
end
end DL
namespace DL
open PySem PySem.Spec PyProof.Rows L2
variable [TabC]
def sSetF (i : Nat) (m : EM D) : SM := fun xq de s n => i < s.length ∧ sSet i m xq de s n
def sParFF (i j : Nat) (ma mb : EM D) : SM := fun xq de s n => i < s.length ∧ j < s.length ∧ sPar i j ma mb (fun _ _ => False) de s n
def sParEF (i j : Nat) (ma mb : EM D) : SM := fun xq de s n => j < s.length ∧ sPar i j ma mb xq de s n
def eOwn (i : Nat) : EM (List D) := fun xq s n Q => ∃ ds, s[i]? = some (some (.lst ds)) ∧ Q ds n
def GOk (g : DG) : Prop := ∀ d s Q, g d s Q → ∃ s', Q s'
def GsOk (g : DGs) (n : Nat) : Prop := ∀ ds s Q, g ds s Q → ds.length = n ∧ ∃ s', Q s'
theorem gok_nm {i : Nat} : GOk (gNm i) := fun d s Q h => ⟨_, h⟩
theorem gsok_nil : GsOk gsNil 0 := fun ds s Q ⟨e, q⟩ => ⟨by rw [e]; rfl, _, q⟩
theorem gsok_cons {g : DG} {r : DGs} {n : Nat} (h : GOk g) (h2 : GsOk r n) : GsOk (gsCons g r) (n + 1) := fun ds s Q ⟨d, dr, e, q⟩ => by
  obtain ⟨s', q⟩ := h _ _ _ q
  obtain ⟨e2, q⟩ := h2 _ _ _ q
  exact ⟨by rw [e, List.length_cons, e2], q⟩
section
variable {X : Cx} {E : XK} {O OL : List Nat} {a b c e : Expr} {ma mb mc m : EM D} {pos : Pos} {i j : Nat} {x y : Str}
theorem vs_parEF {px py pt : Pos} {kt k2 pt2} (hi : i ∉ O) (hj : j ∉ O) (hj0 : j ≠ 0) (hc : X.calm = true) (hN : X.N.Nodup) (hNi : X.N[i]? = some x) (hNj : X.N[j]? = some y) (hij : i ≠ j) (hx : X.env.scope.names.lookup x = some .local) (hy : X.env.scope.names.lookup y = some .local)
    (ha : VE X E O a ma) (hb : VF X E O b mb) (hw : swappedStores [.Tuple [.Name x px, .Name y py] kt pt] (.Tuple [a, b] k2 pt2) X.env = pure (some [x, y]))
    (hs : swapsWithSole [.Tuple [.Name x px, .Name y py] kt pt] (.Tuple [a, b] k2 pt2) pos.line X.env = pure false := by rfl) (hs1 : starEach [a, b] X.env = (false, eval a X.env) :: starEach [b] X.env := by rfl) (hs2 : starEach [b] X.env = (false, eval b X.env) :: starEach [] X.env := by rfl) :
    VS X E O (j :: O) OL (.Assign [.Tuple [.Name x px, .Name y py] kt pt] (.Tuple [a, b] k2 pt2) pos) (sParEF i j ma mb) := by
  obtain ⟨mna, ta, pa, fa⟩ := ha
  obtain ⟨mnb, tb, pb, fb⟩ := hb
  refine ⟨_, ps_par hc hN hNi hNj hij hx hy (pa_cons pa (pa_cons pb pa_nil hs2) hs1) hw hs, fun aS A0 H0 σ H s n xq de De S L k h => ?_⟩
  obtain ⟨hl2, h⟩ := h
  refine fa aS A0 H0 σ H s n _ _ S L (mna _ _ _ _ _ (fun d1 n1 q v1 H1 k1 st1 r1 => ?_) h)
  have S1 := S.step k1 st1
  refine fb aS _ H0 σ H1 s n1 _ _ S1 L (mnb _ _ _ _ _ (fun d2 n2 q2 p2 H2 z2 k2 st2 o2 => ?_) q)
  refine ⟨_, _, rfl, k.nx _ _ _ _ ((S1.set hi r1).own hj hj0 (by rw [List.length_set]; exact hl2) z2 k2 st2 ?_) q2⟩
  rw [AV.set hi]
  exact o2
end
section
variable {X : Cx} {E : XK} {O OB OL vs hid hs : List Nat} {tg e iter kx : Expr} {ifs : List Expr} {m me mk : EM D} {mi : EM (List D)} {mt : EM Bool} {mb : SM} {g : DG} {scope : Scope} {pos : Pos} {own : List (Str × Nat)} {ws : List Nat}
theorem xf_lc (hh : own.map (·.2) ++ hid = hs) (hc : X.calm = true) (hN : X.N.Nodup) (hi : VI X E O OB hid tg iter mi) (ok : BlkOk X.N X.env.scope scope own) (hown : ∀ j ∈ own.map (·.2), j ∉ OB) (hws : ∀ j ∈ ws, j ∈ own.map (·.2))
    (hg : ∀ c : Bk, VG (Cx.bk X scope c) OB ws tg g) (ht : ∀ c : Bk, VTs (Cx.bk X scope c) EF OB ifs mt) (he : ∀ c : Bk, VE (Cx.bk X scope c) EF OB e me) (hs' : ∀ x, foldedSetIterable iter X.env x = pure x := by intro _; rfl) :
    VF X E O (.ListComp e [⟨tg, iter, ifs, 0⟩] scope pos) (eLc mi hs g mt me) := hh ▸ vf_lc hc hN hi ok hown hws hg ht he hs'
theorem xf_dc (hh : own.map (·.2) ++ hid = hs) (hc : X.calm = true) (hN : X.N.Nodup) (hi : VI X E O OB hid tg iter mi) (ok : BlkOk X.N X.env.scope scope own) (hown : ∀ j ∈ own.map (·.2), j ∉ OB) (hws : ∀ j ∈ ws, j ∈ own.map (·.2))
    (hg : ∀ c : Bk, VG (Cx.bk X scope c) OB ws tg g) (ht : ∀ c : Bk, VTs (Cx.bk X scope c) EF OB ifs mt) (hk : ∀ c : Bk, VE (Cx.bk X scope c) EF OB kx mk) (he : ∀ c : Bk, VE (Cx.bk X scope c) EF OB e me) (hs' : ∀ x, foldedSetIterable iter X.env x = pure x := by intro _; rfl) :
    VF X E O (.DictComp kx e [⟨tg, iter, ifs, 0⟩] scope pos) (eDc mi hs g mt mk me) := hh ▸ vf_dc hc hN hi ok hown hws hg ht hk he hs'
theorem xf_lcD {p : Ev → Option D} {f : List (Key × D) → List D} (hh : own.map (·.2) ++ [] = hs) (hc : X.calm = true) (hN : X.N.Nodup) (hi : VD X O tg iter p f) (ok : BlkOk X.N X.env.scope scope own) (hown : ∀ j ∈ own.map (·.2), j ∉ O) (hws : ∀ j ∈ ws, j ∈ own.map (·.2))
    (hg : ∀ c : Bk, VG (Cx.bk X scope c) O ws tg g) (ht : ∀ c : Bk, VTs (Cx.bk X scope c) EF O ifs mt) (he : ∀ c : Bk, VE (Cx.bk X scope c) EF O e me) (hs' : ∀ x, foldedSetIterable iter X.env x = pure x := by intro _; rfl) :
    VF X E O (.ListComp e [⟨tg, iter, ifs, 0⟩] scope pos) (eLcD p f hs g mt me) := hh ▸ vf_lcD hc hN hi ok hown hws hg ht he hs'
/-- over a list that a slot owns -/
theorem vi_ownS {x : Str} {i : Nat} (hO : O.filter (· != i) = OB) (hi : i ∈ O) (hN : X.N[i]? = some x) (hv : Vis X.env.scope x) (hd : (x == ("__debug__" : Str)) = false := by decide) (hcd : (x == ("__classdict__" : Str)) = false := by decide) :
    VI X E O OB [i] tg (.Name x pos) (eOwn i) := hO ▸ vi_own hi hN hv hd hcd
end
end DL
namespace DL
open PySem PySem.Spec PyProof.Rows L2
variable [TabC]
/-! ### the draws -/
abbrev rAbs : List V → Hp → VK → Prop := fun xs H Q => ∃ i, xs = [.int i] ∧ Q (.int (if i < 0 then -i else i)) H
abbrev rInt1 : List V → Hp → VK → Prop := fun xs H Q => (∃ i, xs = [V.int i] ∧ Q (V.int i) H) ∨ ∃ k, xs = [V.bl k] ∧ Q (V.int (if k = true then 1 else 0)) H
abbrev rLenT (K : PySem.W.Frag) : List V → Hp → VK → Prop := fun xs H Q => ∃ x n, xs = [x] ∧ LenV K x H n ∧ Q (V.int (n : Nat)) H
abbrev rAdd : R2 := rI0 fun i j => .int (i + j)
abbrev rMul : R2 := rI CMul fun i j => .int (i * j)
abbrev rMod : R2 := rI (fun _ j => 0 < j) fun i j => .int (i % j)
abbrev rDiv : R2 := rI CDivW fun i j => .int (i / j)
abbrev rPow : R2 := rI CPow fun i j => .int (i ^ j.toNat)
def tS (K : PySem.W.Frag) (j : Int) : TE := tOp (rIxL K) (tVar 0) (tC (.int j))
def tPut (te : TE) (j : Int) : TS := tAsg te (gSub (tVar 0) (tC (.int j)) rSetL)
def t_take (K : PySem.W.Frag) : TS :=
  tSeq (tPut (tOp rAdd (tS K 4) (tC (.int 1))) 4)
  (tSeq (tWhile (tAnd (tTest (tOp rEq (tS K 2) (tC (.int 0)))) (tTest (tOp (rI0 fun i j => .bl (decide (i < j))) (tS K 1) (tCB (rLenT K) (tCons (tS K 0) tNil)))))
    (tSeq (tAsg (tCB rAbs (tCons (tOp (rIxL K) (tS K 0) (tS K 1)) tNil)) (gName 2))
    (tSeq (tPut (tOp rAdd (tS K 1) (tC (.int 1))) 1)
      (tIfS (tTest (tOp (rI0 fun i j => .bl (decide (j ≤ i))) (tVar 2) (tOp rPow (tC (.int 10)) (tC (.int 18))))) (tPut (tVar 2) 2)
        (tPut (tOp rMod (tCB rInt1 (tCons (tOp rAdd (tOp rAdd (tOp rMul (tS K 3) (tC (.int 131))) (tVar 2)) (tC (.int 1))) tNil)) (tC (.int 2147483647))) 3)))))
  (tSeq (tIfS (tTest (tOp (rI0 fun i j => .bl (decide (j < i))) (tS K 2) (tC (.int 0))))
      (tSeq (tAsg (tOp rMod (tCB rInt1 (tCons (tS K 2) tNil)) (tVar 1)) (gName 3)) (tSeq (tPut (tOp rDiv (tS K 2) (tVar 1)) 2) (tRet (tVar 3)))) tNext)
  (tSeq (tAsg (tOp rMod (tCB rInt1 (tCons (tOp rPow (tOp rAdd (tOp rAdd (tS K 3) (tOp rMul (tC (.int 7919)) (tS K 4))) (tC (.int 5))) (tC (.int 3))) tNil)) (tC (.int 1000000007))) (gName 4))
  (tSeq (tAsg (tOp rMod (tCB rInt1 (tCons (tOp rPow (tOp rAdd (tVar 4) (tOp rMul (tC (.int 31)) (tS K 4))) (tC (.int 3))) tNil)) (tC (.int 998244353))) (gName 4))
    (tRet (tOp rMod (tCB rInt1 (tCons (tOp rDiv (tVar 4) (tC (.int 3))) tNil)) (tVar 1)))))))
def sp_take (cl : Str → Addr) : FSp := ⟨fun ds n Q _ => ∃ k : Int, ds = [.st, .int k] ∧ 0 < k ∧ k < 2 ^ 32 ∧ n < 2 ^ 32 ∧ ∀ r : Int, 0 ≤ r → r < k → Q (.int r) (n + 1), fun _ _ _ _ _ hq ⟨k, h1, h2, h3, h4, h⟩ => ⟨k, h1, h2, h3, h4, fun r a b => hq _ _ (h r a b)⟩⟩
section
variable {K : PySem.W.Frag} {aS a0 : Addr} {σ : L2.St} {H : Hp} {i g m d : Int}
abbrev l5 (a0 : Addr) (i g m d : Int) : List V := [.ref a0, .int i, .int g, .int m, .int d]
theorem tS_0 {Q : VK} (h : σ[0]? = some (some (.ref aS))) (hs : H aS = some (.lst (l5 a0 i g m d))) (q : Q (.ref a0) H) : tS K 0 σ H Q := ⟨.ref aS, h, aS, _, 0, _, rfl, rfl, SqL.of hs, rfl, q⟩
theorem tS_1 {Q : VK} (h : σ[0]? = some (some (.ref aS))) (hs : H aS = some (.lst (l5 a0 i g m d))) (q : Q (.int i) H) : tS K 1 σ H Q := ⟨.ref aS, h, aS, _, 1, _, rfl, rfl, SqL.of hs, rfl, q⟩
theorem tS_2 {Q : VK} (h : σ[0]? = some (some (.ref aS))) (hs : H aS = some (.lst (l5 a0 i g m d))) (q : Q (.int g) H) : tS K 2 σ H Q := ⟨.ref aS, h, aS, _, 2, _, rfl, rfl, SqL.of hs, rfl, q⟩
theorem tS_3 {Q : VK} (h : σ[0]? = some (some (.ref aS))) (hs : H aS = some (.lst (l5 a0 i g m d))) (q : Q (.int m) H) : tS K 3 σ H Q := ⟨.ref aS, h, aS, _, 3, _, rfl, rfl, SqL.of hs, rfl, q⟩
theorem tS_4 {Q : VK} (h : σ[0]? = some (some (.ref aS))) (hs : H aS = some (.lst (l5 a0 i g m d))) (q : Q (.int d) H) : tS K 4 σ H Q := ⟨.ref aS, h, aS, _, 4, _, rfl, rfl, SqL.of hs, rfl, q⟩
theorem gs_put {j : Int} {jj : Nat} {v : V} {Q : L2.St → Hp → Prop} (h : σ[0]? = some (some (.ref aS))) (hs : H aS = some (.lst (l5 a0 i g m d))) (hj : ixN 5 j = some jj) (q : Q σ (upd H aS (.lst ((l5 a0 i g m d).set jj v)))) : gSub (tVar 0) (tC (.int j)) rSetL v σ H Q :=
  ⟨.ref aS, h, aS, _, j, jj, rfl, rfl, hs, hj, q⟩
theorem pow3 {x : Int} (h0 : 0 ≤ x) (h : x < 2 ^ 63) : CPow x 3 := ⟨by decide, by decide, by omega⟩
theorem pow3b {x d : Int} (h0 : 0 ≤ x) (h1 : x < 1000000007) (h2 : 0 ≤ d) (h3 : d < 2 ^ 33) : CPow (x + 31 * (d + 1)) 3 := pow3 (by omega) (by omega)
theorem ifT {p : Prop} [Decidable p] {A B : Prop} (h : p) (a : A) : if decide p = true then A else B := by rw [if_pos (decide_eq_true h)]; exact a
theorem ifF {p : Prop} [Decidable p] {A B : Prop} (h : ¬ p) (a : B) : if decide p = true then A else B := by rw [if_neg (by rw [decide_eq_true_eq]; exact h)]; exact a
/-- all but the state is as it was -/
def EqS (aS : Addr) (H H' : Hp) : Prop := ∀ b, b ≠ aS → H' b = H b
theorem EqS.refl : EqS aS H H := fun _ _ => rfl
theorem EqS.kp {H' : Hp} (k : EqS aS H H') : KpS aS H H' := fun b u e z => .of ((k b z).trans e)
theorem eq_put {H0 : Hp} {o : HO} (k : EqS aS H0 H) : EqS aS H0 (upd H aS o) := fun b z => by rw [upd_ne z]; exact k b z
theorem EqS.tabs {H' : Hp} {xs : List V} {T : List (Addr × Str)} (k : EqS aS H H') (hs : H aS = some (.lst xs)) (t : LamX.Tabs T H) : LamX.Tabs T H' := fun p hp => by
  obtain ⟨ps, h1, h2, h3⟩ := t p hp
  refine ⟨ps, (k _ fun z => by rw [z, hs] at h1; cases h1).trans h1, h2, fun pos cv hc => ?_⟩
  obtain ⟨c, e1, e2⟩ := h3 pos cv hc
  refine ⟨c, e1, (k _ fun z => ?_).trans e2⟩
  rw [z, hs] at e2
  have e2 : some (HO.lst xs) = some (HO.ext _) := e2
  cases e2
theorem EqS.tba {H' : Hp} {xs ys : List V} (k : EqS aS H H') (hs : H aS = some (.lst xs)) (hs' : H' aS = some (.lst ys)) (t : TbA H) : TbA H' := ⟨k.tabs hs t.1, fun b ps e => by
  have nb : b ≠ aS := fun z => by rw [z, hs'] at e; cases e
  rw [k b nb] at e
  exact t.2 b ps e⟩
theorem pure_take (cl : Str → Addr) (vs : List V) (H : Hp) (Q : VK) (E : XK) (h : lift K 2 (sp_take cl) vs H Q E) : t_take K { nx := fun _ H' => Q .non H', rt := Q } (L2.start ["_law_state", "_law_many", "_law_cell", "_law_digit", "_law_mixed"] vs) H := by
  obtain ⟨aS, A0, ds, n, xq, hl, r, st, av, L, k, e, hk0, hk1, hn, q⟩ := h
  subst e
  rw [RepL] at r
  obtain ⟨v1, vr, e1, r1, r⟩ := r
  rw [RepL] at r
  obtain ⟨v2, vr2, e2, r2, r⟩ := r
  rw [RepL] at r
  simp only [Rep] at r1 r2
  subst r e2 e1 r1 r2
  have q : ∀ (r : Int) H', 0 ≤ r → r < k → EqS aS H H' → StA K aS H' (n + 1) → Q (.int r) H' := fun r H' a b kp st => q r a b (.int r) H' kp.kp st rep_int
  obtain ⟨a0, cs, i, g, m, d, hs, ha, ⟨o, ho⟩, hi, hg, hm0, hm1, hd0, hd1, htb⟩ := st
  have sta : ∀ {H' : Hp} {i g m : Int}, EqS aS H H' → H' aS = some (.lst (l5 a0 i g m (d + 1))) → 0 ≤ i → 0 ≤ g → 0 ≤ m → m < 2147483647 → StA K aS H' (n + 1) := fun {H' i g m} kp e h1 h2 h3 h4 => ⟨a0, cs, i, g, m, d + 1, e, ha, ⟨o, (kp _ ha).trans ho⟩, h1, h2, h3, h4, by omega, by omega, kp.tba hs e htb⟩
  have z0 : ∀ {c e1 e2 : Option V}, ([some (.ref aS), some (.int k), c, e1, e2] : L2.St)[0]? = some (some (.ref aS)) := rfl
  -- the count
  refine tS_4 (σ := [some (.ref aS), some (.int k), none, none, none]) rfl hs ⟨d, 1, rfl, rfl, gs_put rfl hs rfl ?_⟩
  have hs1 : upd H aS (.lst ((l5 a0 i g m d).set 4 (.int (d + 1)))) aS = some (.lst (l5 a0 i g m (d + 1))) := upd_same
  have kp1 : EqS aS H (upd H aS (.lst ((l5 a0 i g m d).set 4 (.int (d + 1))))) := eq_put EqS.refl
  -- the loop
  refine ⟨fun μ σ' H' => ∃ (i g m : Int) (c : Option V), σ' = [some (.ref aS), some (.int k), c, none, none] ∧ H' aS = some (.lst (l5 a0 i g m (d + 1))) ∧ EqS aS H H' ∧ 0 ≤ i ∧ 0 ≤ g ∧ 0 ≤ m ∧ m < 2147483647 ∧ μ = (cs.length - i).toNat,
    ⟨_, i, g, m, none, rfl, hs1, kp1, hi, hg, hm0, hm1, rfl⟩, fun μ σ' H' w => ?_⟩
  obtain ⟨i, g, m, c, rfl, hs, kp, hi, hg, hm0, hm1, hμ⟩ := w
  have ho' : H' a0 = some (.frz o (.lst (cs.map V.int))) := (kp _ ha).trans ho
  have rest : tSeq (tIfS (tTest (tOp (rI0 fun i j => .bl (decide (j < i))) (tS K 2) (tC (.int 0))))
      (tSeq (tAsg (tOp rMod (tCB rInt1 (tCons (tS K 2) tNil)) (tVar 1)) (gName 3)) (tSeq (tPut (tOp rDiv (tS K 2) (tVar 1)) 2) (tRet (tVar 3)))) tNext)
    (tSeq (tAsg (tOp rMod (tCB rInt1 (tCons (tOp rPow (tOp rAdd (tOp rAdd (tS K 3) (tOp rMul (tC (.int 7919)) (tS K 4))) (tC (.int 5))) (tC (.int 3))) tNil)) (tC (.int 1000000007))) (gName 4))
    (tSeq (tAsg (tOp rMod (tCB rInt1 (tCons (tOp rPow (tOp rAdd (tVar 4) (tOp rMul (tC (.int 31)) (tS K 4))) (tC (.int 3))) tNil)) (tC (.int 998244353))) (gName 4))
      (tRet (tOp rMod (tCB rInt1 (tCons (tOp rDiv (tVar 4) (tC (.int 3))) tNil)) (tVar 1))))) { nx := fun _ H' => Q .non H', rt := Q } [some (.ref aS), some (.int k), c, none, none] H' := by
    refine tS_2 rfl hs ⟨g, 0, rfl, rfl, _, rfl, ?_⟩
    by_cases hg0 : 0 < g
    · refine ifT hg0 ?_
      refine tS_2 rfl hs (.inl ⟨g, rfl, .int k, rfl, g, k, rfl, rfl, hk0, ?_⟩)
      refine tS_2 rfl hs ⟨.int k, rfl, g, k, rfl, rfl, ⟨hk0, ?_⟩, gs_put rfl hs rfl ⟨.int (g % k), rfl, q _ _ (Int.emod_nonneg _ (by omega)) (Int.emod_lt_of_pos _ hk0) (eq_put kp) (sta (eq_put kp) upd_same hi (Int.ediv_nonneg hg (by omega)) hm0 hm1)⟩⟩
      have : k.natAbs < 2 ^ 32 := by omega
      have h2 : k.natAbs.log2 < 32 := (Nat.log2_lt (by omega)).mpr this
      omega
    · refine ifF hg0 ?_
      have hp1 : 0 ≤ (m + 7919 * (d + 1) + 5) := by omega
      refine tS_3 rfl hs (tS_4 rfl hs ⟨7919, d + 1, rfl, rfl, .inl ⟨by decide, by decide⟩, m, _, rfl, rfl, _, 5, rfl, rfl, _, 3, rfl, rfl, pow3 (by omega) (by omega), .inl ⟨_, rfl, _, 1000000007, rfl, rfl, (show (0 : Int) < 1000000007 by decide), ?_⟩⟩)
      have x0 := Int.emod_nonneg ((m + 7919 * (d + 1) + 5) ^ (3 : Int).toNat) (show (1000000007 : Int) ≠ 0 by decide)
      have x1 := Int.emod_lt_of_pos ((m + 7919 * (d + 1) + 5) ^ (3 : Int).toNat) (show (0 : Int) < 1000000007 by decide)
      refine ⟨.int _, rfl, tS_4 rfl hs ⟨31, d + 1, rfl, rfl, .inl ⟨by decide, by decide⟩, _, _, rfl, rfl, _, 3, rfl, rfl, pow3b x0 x1 hd0 (by omega), .inl ⟨_, rfl, _, 998244353, rfl, rfl, (show (0 : Int) < 998244353 by decide), ?_⟩⟩⟩
      refine ⟨.int _, rfl, _, 3, rfl, rfl, ⟨by decide, by decide +kernel⟩, .inl ⟨_, rfl, .int k, rfl, _, k, rfl, rfl, hk0, q _ _ (Int.emod_nonneg _ (by omega)) (Int.emod_lt_of_pos _ hk0) kp (sta kp hs hi hg hm0 hm1)⟩⟩
  refine tS_2 rfl hs ⟨rfl, _, rfl, ?_⟩
  by_cases hg0 : g = 0
  · refine ifT (by rw [hg0]) ?_
    refine tS_1 rfl hs (tS_0 rfl hs ⟨.ref a0, cs.length, rfl, .inl ⟨_, .inl (.inr ⟨o, ho'⟩), by simp⟩, i, cs.length, rfl, rfl, _, rfl, ?_⟩)
    by_cases hlt : i < cs.length
    · refine ifT hlt ?_
      obtain ⟨j, rfl⟩ : ∃ j : Nat, i = j := ⟨i.toNat, by omega⟩
      have hj : j < cs.length := by omega
      have hat : atI (cs.map V.int) (j : Int) = some (.int cs[j]) := by
        unfold atI ixN
        rw [if_pos hi, List.length_map, if_pos hlt]
        simp [hj]
      refine ⟨fun σ' H' => ∃ (i' g m : Int) (c : Option V), σ' = [some (.ref aS), some (.int k), c, none, none] ∧ H' aS = some (.lst (l5 a0 i' g m (d + 1))) ∧ EqS aS H H' ∧ i' = j + 1 ∧ 0 ≤ g ∧ 0 ≤ m ∧ m < 2147483647, fun σ' H' z => ?_, ?_⟩
      · obtain ⟨i', g, m, c, e1, e2, e3, e4, e5, e6, e7⟩ := z
        exact ⟨(cs.length - i').toNat, by omega, i', g, m, c, e1, e2, e3, by omega, e5, e6, e7, rfl⟩
      · refine tS_0 rfl hs (tS_1 rfl hs ⟨a0, _, j, .int cs[j], rfl, rfl, .inl (.inr ⟨o, ho'⟩), hat, cs[j], rfl, ?_⟩)
        have hc0 : 0 ≤ (if cs[j] < 0 then -cs[j] else cs[j]) := by split <;> omega
        refine tS_1 (σ := [some (.ref aS), some (.int k), some (.int (if cs[j] < 0 then -cs[j] else cs[j])), none, none]) rfl hs ⟨j, 1, rfl, rfl, gs_put rfl hs rfl ?_⟩
        have hs2 : upd H' aS (.lst ((l5 a0 j g m (d + 1)).set 1 (.int (j + 1)))) aS = some (.lst (l5 a0 (j + 1) g m (d + 1))) := upd_same
        have kp2 : EqS aS H (upd H' aS (.lst ((l5 a0 j g m (d + 1)).set 1 (.int (j + 1))))) := eq_put kp
        refine ⟨.int _, rfl, 10, 18, rfl, rfl, ⟨by decide, by decide, by decide⟩, _, _, rfl, rfl, _, rfl, ?_⟩
        by_cases hbig : (10 : Int) ^ (18 : Int).toNat ≤ (if cs[j] < 0 then -cs[j] else cs[j])
        · refine ifT hbig ?_
          exact ⟨.int _, rfl, gs_put rfl hs2 rfl ⟨j + 1, _, m, _, rfl, upd_same, eq_put kp2, rfl, hc0, hm0, hm1⟩⟩
        · refine ifF hbig ?_
          refine tS_3 rfl hs2 ⟨m, 131, rfl, rfl, .inr ⟨by decide, by decide⟩, .int _, rfl, _, _, rfl, rfl, _, 1, rfl, rfl, .inl ⟨_, rfl, _, 2147483647, rfl, rfl, (show (0 : Int) < 2147483647 by decide), gs_put rfl hs2 rfl ⟨j + 1, g, _, _, rfl, upd_same, eq_put kp2, rfl, hg, Int.emod_nonneg _ (by decide), Int.emod_lt_of_pos _ (by decide)⟩⟩⟩
    · exact ifF hlt rest
  · exact ifF (fun z => hg0 (by cases z; rfl)) rest
end
end DL
namespace DL
open PySem PySem.Spec PyProof.Rows L2
variable [TabC]
/-! ### the first statement of a law -/
abbrev rListT (K : PySem.W.Frag) : List V → Hp → VK → Prop := fun xs H Q => ∃ p ys, xs = [.ref p] ∧ (SqL K H p ys ∨ SqT K H p ys) ∧ ∀ l, H l = none → Q (.ref l) (upd H l (.lst ys))
def t_fresh (K : PySem.W.Frag) : TS := tRet (tLst (tCons (tCB (rListT K) (tCons (tSl (rSlL K) (tVar 0) tNoPart (tPart (tC (.int 40)))) tNil)) (tCons (tC (.int 0)) (tCons (tC (.int 0)) (tCons (tC (.int 0)) (tCons (tC (.int 0)) tNil))))))
def spFresh (K : PySem.W.Frag) : Sp := fun vs H Q _ => ∃ (a : Addr) (ns : List Int), vs = [.ref a] ∧ SqL K H a (ns.map V.int) ∧ ∀ (l p : Addr) (cs : List Int) (H' : Hp), l ≠ p → H p = none → H l = none → Gr H H' → H' l = some (.lst (cs.map V.int)) → H' p = some (.lst (l5 l 0 0 0 0)) → Q (.ref p) H'
theorem cut_ints (ns : List Int) (lo hi : Option Int) : cutV (ns.map V.int) lo hi = (List.take (HT.sIx ns.length ns.length hi - HT.sIx ns.length 0 lo) (List.drop (HT.sIx ns.length 0 lo) ns)).map V.int := by
  unfold cutV
  rw [List.length_map, List.map_take, List.map_drop]
theorem pure_fresh {K : PySem.W.Frag} (vs : List V) (H : Hp) (Q : VK) (E : XK) (h : spFresh K vs H Q E) : t_fresh K { nx := fun _ H' => Q .non H', rt := Q } (L2.start ["_law_script"] vs) H := by
  obtain ⟨a, ns, rfl, hs, q⟩ := h
  refine ⟨.ref a, rfl, 40, rfl, a, _, rfl, hs, fun t ht => ?_⟩
  rw [cut_ints]
  generalize List.take (HT.sIx ns.length ns.length (some 40) - HT.sIx ns.length 0 none) (List.drop (HT.sIx ns.length 0 none) ns) = cs
  refine ⟨t, _, rfl, .inl (SqL.of upd_same), fun l hl => ⟨by rw [sizeLine_eq]; show 5 ≤ 16777216; decide, fun p hp => ?_⟩⟩
  have hlt : l ≠ t := fun z => by rw [z, upd_same] at hl; cases hl
  have hpl : p ≠ l := fun z => by rw [z, upd_same] at hp; cases hp
  have hpt : p ≠ t := fun z => by rw [z, upd_ne (Ne.symm hlt), upd_same] at hp; cases hp
  rw [upd_ne hlt] at hl
  rw [upd_ne hpl, upd_ne hpt] at hp
  have hl' : upd H t (.lst (cs.map V.int)) l = none := by rw [upd_ne hlt]; exact hl
  have hp' : upd (upd H t (.lst (cs.map V.int))) l (.lst (cs.map V.int)) p = none := by rw [upd_ne hpl, upd_ne hpt]; exact hp
  refine q l p cs _ (Ne.symm hpl) hp hl ((Gr.upd ht).trans ((Gr.upd hl').trans (Gr.upd hp'))) ?_ upd_same
  · rw [upd_ne (Ne.symm hpl)]
    exact upd_same
def spLaw (K : PySem.W.Frag) : Sp := fun vs H Q _ => ∃ (a : Addr) (ns : List Int), vs = [.ref a] ∧ SqL K H a (ns.map V.int) ∧ TbA H ∧ ∀ H', Q (.bl true) H'
/-- what stands at d is locked from here on -/
theorem pss_lock1 {X : Cx} {st : List Stmt} {t : TS} (h : PSs X st t) : PSs X st (fun D σ H => ∃ d u, H d = some u ∧ Mut (some u) ∧ ∀ od, t D σ (upd H d (.frz od u))) :=
  ⟨fun pins s σ H D inv ⟨d, u, at_, mu, run⟩ => Exists.elim (inv.lock at_ mu) fun od inv' => h.run pins s σ _ D inv' (run od)⟩
abbrev tFirst (K : PySem.W.Frag) : TS := tAsg (tCall (spFresh K) [] ET (tCons (tVar 0) tNil)) (gName 1)
section
variable {P : Program} {w : World} {K : PySem.W.Frag} {mg : Str → Option Value} {base : Heap} {x : Str} {params : Arguments} {st : Stmt} {rest : List Stmt} {scope : Scope} {f : Addr} {fd : FuncData}
end
end DL
namespace DL
open PySem PySem.Spec PyProof.Rows L2
variable [TabC]
theorem op_isBl {X : Cx} : OpR X (compareOp .Is) (fun x y H Q => ∃ a b, x = .bl a ∧ y = .bl b ∧ Q (.bl (a == b)) H) := fun _ s _ _ _ _ _ _ _ I rx ry ⟨a, b, ex, ey, q⟩ => by
  subst ex ey
  cases rx
  cases ry
  show wpAny _ _ ((isSame (Value.bool a) (Value.bool b)) >>= fun z => pure (Value.bool z)) _ _ s
  have e : (Value.bool a == Value.bool b) = (a == b) := by cases a <;> cases b <;> rfl
  have e2 : isSame (Value.bool a) (Value.bool b) = pure (a == b) := by
    rw [← e]
    rfl
  rw [e2]
  exact wpAny_bind (wpAny_pure (wpAny_pure (fin_bl I q rfl)))
def dIs (x y : D) : Option D := match x, y with
  | .bl a, .bl b => some (.bl (a == b))
  | _, _ => dIsN x y
theorem od_is {X : Cx} : OpD X (compareOp .Is) dIs := by
  obtain ⟨r, ho, hr⟩ := od_isN (X := X)
  refine ⟨_, OpR.or op_isBl ho, fun aS H A n d1 d2 d v1 v2 Q c r1 r2 e w => ?_⟩
  unfold dIs at e
  split at e
  · cases e
    exact .inl ⟨_, _, repB_bl r1, repB_bl r2, w _ H KpS.refl c.st rep_bl⟩
  · exact .inr (hr aS H A n d1 d2 d v1 v2 Q c r1 r2 e w)
section
variable {X : Cx} {E : XK} {O OB OL vs hid hs : List Nat} {tg e iter kx : Expr} {ifs : List Expr} {m me mk : EM D} {mi : EM (List D)} {mt : EM Bool} {mb : SM} {g : DG} {scope : Scope} {pos : Pos} {own : List (Str × Nat)} {ws : List Nat}
theorem xs_setLc {i : Nat} {y : Str} {py spos : Pos} (hh : own.map (·.2) ++ hid = hs) (hiO : i ∉ O) (hi0 : i ≠ 0) (hy : X.N[i]? = some y) (hyl : X.env.scope.names.lookup y = some .local)
    (hsw : swapsWith (.ListComp e [⟨tg, iter, ifs, 0⟩] scope pos) (some (.Name y py)) spos.line X.env = pure true) (hc : X.calm = true) (hN : X.N.Nodup) (hi : VI X E O OB hid tg iter mi) (ok : BlkOk X.N X.env.scope scope own) (hown : ∀ j ∈ own.map (·.2), j ∉ OB) (hws : ∀ j ∈ ws, j ∈ own.map (·.2))
    (hg : ∀ c : Bk, VG (Cx.bk X scope c) OB ws tg g) (ht : ∀ c : Bk, VTs (Cx.bk X scope c) EF OB ifs mt) (he : ∀ c : Bk, VE (Cx.bk X scope c) EF OB e me) (hs' : ∀ x, foldedSetIterable iter X.env x = pure x := by intro _; rfl) :
    VS X E O (i :: O) OL (.Assign [.Name y py] (.ListComp e [⟨tg, iter, ifs, 0⟩] scope pos) spos) (sSetF i (eLc mi hs g mt me)) := hh ▸ vs_setLc hiO hi0 hc hN hy hyl hsw hi ok hown hws hg ht he hs'
end
end DL
namespace ES
open PySem PySem.Spec PyProof.Rows L2
/-! ### the first line of an own error's __init__: super().__init__(..) -/
/-- no new table -/
def NoT (H H' : Hp) : Prop := ∀ b ps, H' b = some (.tbl ps) → H b = some (.tbl ps)
theorem NoT.upd {H H' : Hp} {p : Addr} {o : HO} (k : NoT H H') (ho : ∀ ps, o ≠ .tbl ps) : NoT H (L2.upd H' p o) := fun b ps e => by
  by_cases z : b = p
  · rw [z, upd_same] at e
    exact (ho _ (Option.some.inj e)).elim
  · rw [upd_ne z] at e
    exact k b ps e
theorem NoT.refl (H : Hp) : NoT H H := fun _ _ h => h
/-- a wrapper that is kept in sight -/
def mwO (u a : Addr) : HO := .ext fun h => h.get? u = some (PySem.W.kxs_mw VI a)
theorem mwO_ok {P : Program} {w : World} {H : Hp} {h : Heap} {u a : Addr} (e : h.get? u = some (PySem.W.kxs_mw VI a)) : ObjOk P w H h u (mwO u a) := ⟨e, ⟨_, e⟩, fun h1 h2 z k => k _ z⟩
theorem mwO_at {P : Program} {w : World} {H : Hp} {h : Heap} {u a : Addr} (ok : HOk P w H h) (e : H u = some (mwO u a)) : h.get? u = some (PySem.W.kxs_mw VI a) := (ok u _ e).1
section
variable {X : Cx} {pins : List (Addr × Obj)} {σ : L2.St} {H : Hp} {s : Shared} {a C u : Addr} {E : Value → Shared → Prop} {A : Around}
theorem run_mw {us : List Value} {Q : Value → Shared → Prop} (T : OexC X.K C) (I : Inv X pins σ H s) (e : H a = some (exo a C none)) (hu : s.heap.get? u = some (PySem.W.kxs_mw VI a)) (hl : us.length ≤ sizeLine) (h : ∀ s', Inv X pins σ H s' → Q .none s') :
    wpAny (model X.prog X.w) A (call (.ref u) us) Q E s := by
  obtain ⟨nm, q, N, bs, bm, sn, sub, ab, col, dd, k0, k1, k2, k3, k5, hC, hbm⟩ := T.cls
  obtain ⟨t1, ho⟩ := exo_at I.hok e
  obtain ⟨hp, g, d, t, os⟩ := s
  have kC : hp.get? C = _ := I.kIn _ _ hC
  have same : upd H a (exo a C none) = H := funext fun b => by
    by_cases hb : b = a
    · rw [hb, upd_same, e]
    · rw [upd_ne hb]
  refine wpAny_call (codeAny_of_tree ?_)
  show wpAny _ A.in1 (callAny (.ref u) ⟨us, []⟩) _ _ _
  unfold callAny
  refine wpAny_bind (wpAny_load hu ?_)
  simp only [PySem.W.kxs_mw]
  refine PySem.W.KFB.if_so (by decide) ?_
  refine wpAny_bind (PySem.W.check_bound_init F.excBase_ValueError.toExcCallFacts kC ho rfl ?_)
  refine wpAny_bind (wpAny_pure (wpAny_pure ⟨plainId_quiet F.excBase_ValueError.init.plain _, codeAny_builtin F.excBase_ValueError.initEntry ?_⟩))
  refine PySem.W.exc_init_tree (cls := .ref C) (t0 := t1) (dv := none) (c2 := .none) (c3 := .none) (b4 := .bool false) ho hl fun h' k hx _ => ?_
  have J := I.write (t' := t) (x := a) (e := a) (o := exo a C none) (by rw [e]; exact True.intro) (.inl rfl) k ⟨_, hx⟩ (exo_ok hx)
  rw [same] at J
  exact h _ J
end
end ES
namespace ES
open PySem PySem.Spec PyProof.Rows L2
/-- what the written part says of the __init__ (at f) of the error class at C, the function F of the text -/
structure SupF (P : Program) (K : PySem.W.Frag) (C f : Addr) (F : NdefX.NF) : Prop where
  lk : ∃ (oc : Value) (od : Option Addr) (doc pm ctv : Value) (osl : Array (Option Value)), K.lookup f = some ⟨oc, od, .func (F.fd doc pm ctv), osl⟩
  code : PySem.W.codeIn K (.ref F.c) F.qual = true
  file : ∃ (ccl : Value) (cdd : Option Addr) (vs : Array Value) (ccs : Array (Option Value)) (fl : Str) (tf : Tok), K.lookup F.c = some ⟨ccl, cdd, .fields vs, ccs⟩ ∧ vs[2]? = some (.str fl tf) ∧ ((P.main.file : Str) == fl) = true
  cell : ∃ (cc : Addr) (o : Value) (d : Option Addr) (sl : Array (Option Value)), F.cl = [(("__class__" : Str), cc)] ∧ K.lookup cc = some ⟨o, d, .cell (some (.ref C)), sl⟩
  own : PySem.W.mroIn K C (.ref C) = some true
  ini : PySem.W.ks_superIn K C C "__init__" = some (some (.builtin VI))
  ve : PySem.W.subIn K (.ref C) (.type "ValueError") = some true
  third : PySem.W.nsIn K cStatics "thirdparty.any" = some none
  top : (P.main.scope.names.lookup ("super" : Str)).isSome = false
/-- its scope -/
structure SupS (slf0 : Str) (N ps : List Str) (F : NdefX.NF) : Prop where
  sc : NdefX.NScope N ps ["__class__"] F.scope
  sup : F.scope.names.lookup ("super" : Str) = some .globalImplicit
  cls : F.scope.names.lookup ("__class__" : Str) = some .free
  slf : F.scope.names.lookup slf0 = some .local
  par : ∃ ar : Arg, (F.params.posonlyargs ++ F.params.args).head? = some ar ∧ ar.arg = slf0
  fst : N[0]? = some slf0
abbrev supCall (e : Expr) (p0 p1 p2 p3 : Pos) : Expr := .Call (.Attribute (.Call (.Name "super" p0) [] [] p1) "__init__" p2) [e] [] p3
section
variable {CX : CXT} {P : Program} {w : World} {K : PySem.W.Frag} {mg : Str → Option Value} {base : Heap} {N ps : List Str} {F : NdefX.NF} {f C a : Addr} {A : Around} {outer : List Env} {s0 : Shared} {H0 : Hp} {E0 : XK} {self : Str}
theorem sup_line {σ : L2.St} {H : Hp} {s : Shared} {e : Expr} {ta : TA} {body : List Stmt} {p0 p1 p2 p3 : Pos} {Q : Value → Shared → Prop} {E : Value → Shared → Prop} {pl : Sem Bool} (T : OexC K C) (SF : SupF P K C f F) (SS : SupS self N ps F) (hm : mg "super" = none)
    (I : Inv (NdefX.ncx CX P w K mg base N F f A outer s0 H0 E0) [] σ H s) (h0 : σ[0]? = some (some (.ref a))) (ea : H a = some (exo a C none))
    (ha : PA (NdefX.ncx CX P w K mg base N F f A outer s0 H0 E0) [e] ta)
    (hta : ∀ H', (∀ b u, H b = some u → H' b = some u) → NoT H H' → ta σ H' fun vs H1 => vs.length ≤ 1000 ∧ H1 a = some (exo a C none) ∧ (∀ b u, H' b = some u → H1 b = some u) ∧ ∀ s', Inv (NdefX.ncx CX P w K mg base N F f A outer s0 H0 E0) [] σ H1 s' → Q .none s')
    (hE : E = (NdefX.ncx CX P w K mg base N F f A outer s0 H0 E0).xe)
    (he : starEach [e] (NdefX.envF F f s0.heap.objs.size) = (false, eval e (NdefX.envF F f s0.heap.objs.size)) :: starEach [] (NdefX.envF F f s0.heap.objs.size))
    (hev : eval (supCall e p0 p1 p2 p3) (NdefX.envF F f s0.heap.objs.size) = (do
      let ov ← attributeBase (.Call (.Name "super" p0) [] [] p1) "__init__" (NdefX.envF F f s0.heap.objs.size) (eval (.Call (.Name "super" p0) [] [] p1) (NdefX.envF F f s0.heap.objs.size))
      standAt p2.atName
      let (g, first) ← holding [ov] (getMethod ov "__init__" pl)
      callWith p3 g first (backTo p3 (starEach [e] (NdefX.envF F f s0.heap.objs.size))) [])) :
    PySem.wpAt (model P w) (NdefX.ncx CX P w K mg base N F f A outer s0 H0 E0).A (.func body (NdefX.envF F f s0.heap.objs.size)) (eval (supCall e p0 p1 p2 p3) (NdefX.envF F f s0.heap.objs.size)) Q E s := by
  obtain ⟨cc, oc, dc, slc, ecl, lkc⟩ := SF.cell
  obtain ⟨ocf, odf, doc, pm, ctv, osl, lkf⟩ := SF.lk
  obtain ⟨ccl, cdd, vs, ccs, fl, tf, lkco, hvs, hfl⟩ := SF.file
  obtain ⟨ar, har, hself⟩ := SS.par
  have hkI : K.In s.heap := I.kIn
  obtain ⟨mL, hns, hloc⟩ := I.loc
  have kf : ∀ x, (NdefX.envF F f s0.heap.objs.size).kindOf x = F.scope.names.lookup x := fun x => rfl
  obtain ⟨u0, r0, lk0⟩ := hloc 0 self (.ref a) SS.fst h0 (.inl SS.slf)
  obtain rfl : u0 = Value.ref a := r0
  have hself0 : mL self = some (.ref a) := by
    rcases lk0 with ⟨_, q⟩ | ⟨q, _⟩
    · exact q
    · have q : F.scope.names.lookup self = some .cell ∨ F.scope.names.lookup self = some .free := q
      rw [SS.slf] at q
      rcases q with q | q <;> cases q
  obtain ⟨nm, qn, NN, bs, bm, sn, sub, ab, col, dd, k0, k1, k2, k3, k5, hC, hbm⟩ := T.cls
  obtain ⟨t1, hoa⟩ := exo_at I.hok ea
  have hclsC : PySem.W.clsIn K C = some { name := nm, bases := bs, mro := .ref C :: bm, ns := NN, qualname := qn, hasDict := true, slotNames := sn, subclasses := sub, abstract := ab, collection := col, hasDel := false } := by
    unfold PySem.W.clsIn
    rw [hC] <;> rfl
  have kC := hkI _ _ hC
  refine PySem.ks_wpAt_MethodCall (pl := pl) ?_ hev
  refine PySem.ks_wpAt_super_base (fd := F.fd doc pm ctv) (ar := ar) (cc := F.c) SS.sup SS.cls rfl rfl (hkI _ _ lkf) rfl har rfl (hkI _ _ lkco) rfl hvs hfl SF.top ?_
  obtain ⟨mb, hb1, hb2⟩ := I.mod.blt
  refine PySem.W.ks_loadName_global SS.sc.kind SS.sup (Calls.loadGlobal_builtin (I.mod.glob.keeps I.bk) hm (hb1.keeps I.bk) ((hb2 _ (by decide)).trans PyProof.Rows.Boot.«super») ⟨rfl, ?_⟩)
  refine wpAny_loadName_free SS.sc.kind SS.cls (c := cc) (by show F.cl.lookup _ = _; rw [ecl]; rfl) ⟨_, hkI _ _ lkc, rfl⟩ ?_
  rw [hself]
  refine wpAny_loadName_local SS.sc.kind SS.slf hns hself0 ?_
  refine PySem.ks_wpAny_isType_cls kC rfl ⟨rfl, ?_⟩
  obtain ⟨hh, g, d, t, os⟩ := s
  refine PySem.ks_wpAny_call_super kC rfl hoa rfl (fun c z => by cases z) (PySem.W.looks_mroIn hkI SF.own) fun h' hso keep => ?_
  have I1 : Inv (NdefX.ncx CX P w K mg base N F f A outer s0 H0 E0) [] σ H ⟨h', g, d, t, os⟩ := I.kept (t' := t) keep
  have hoa1 := keep _ _ hoa
  have IA : PySem.W.InstAt h' a { cls := .ref C, dict := none, data := .fields #[.ref t1, .none, .none, .none, .bool false, .none] } C none := ⟨hoa1, rfl, rfl, trivial⟩
  have hsup : PySem.W.alongIn K "__init__" (((Value.ref C :: bm).dropWhile (· != .ref C)).drop 1) = some (some (.builtin VI)) := by
    have z := SF.ini
    unfold PySem.W.ks_superIn at z
    rw [hclsC] at z
    exact z
  refine PySem.W.kxs_getMethod PySem.W.kxs_ValueError hso (PySem.W.looks_opaque I1.kIn SF.third) (l₀ := .ref C :: bm) (fun A Q E s k q => wpAny_bind ((PySem.W.looks_clsIn I1.kIn hclsC) A _ E s k (wpAny_pure q))) rfl I1.kIn hsup
    (IA.type.andThen (PySem.W.looks_subIn I1.kIn SF.ve)) (PySem.W.ks_ne I1.kIn IA hclsC) rfl ?_
  -- the wrapper is laid
  have hgot : (h'.push (PySem.W.kxs_mw VI a)).get? h'.objs.size = some (PySem.W.kxs_mw VI a) := Heap.get?_push_at rfl rfl
  have hn : H h'.objs.size = none := I1.hok.fresh (Nat.le_refl _)
  have I2 : Inv (NdefX.ncx CX P w K mg base N F f A outer s0 H0 E0) [] σ (upd H h'.objs.size (mwO h'.objs.size a)) ⟨h'.push (PySem.W.kxs_mw VI a), g, d, t + 1, os⟩ :=
    I1.laid (t' := t + 1) (a := h'.objs.size) (o := mwO h'.objs.size a) (fun b o z => Heap.get?_push_of_some _ z) (Nat.le_refl _) (mwO_ok hgot)
  rw [he]
  refine PySem.W.kxs_callWith (i := VI) (x := a) rfl ?_
  refine PySem.Calls.evalArgs_plain ?_
  show wpAny _ _ (spliced (backTo p3 ((false, eval e (NdefX.envF F f s0.heap.objs.size)) :: starEach [] (NdefX.envF F f s0.heap.objs.size)))) _ _ _
  rw [← he, hE]
  refine thn (ha.run _ [] _ σ _ _ I2 (hta _ (fun b u z => by rw [upd_ne (ne_of_none z hn)]; exact z) ((NoT.refl H).upd fun ps z => by have z : HO.ext _ = HO.tbl ps := z; cases z))) fun us s1 ⟨vs, H1, I3, r1, hl, ea1, k1, q⟩ => ?_
  have hmw : s1.heap.get? h'.objs.size = some (PySem.W.kxs_mw VI a) := mwO_at I3.hok (k1 _ _ upd_same)
  refine ⟨hmw, ?_⟩
  exact run_mw T I3 ea1 hmw (by show us.length ≤ _; rw [← r1.length, sizeLine_eq]; omega) q
end
end ES
namespace ES
open PySem PySem.Spec PyProof.Rows L2
/-- what such an __init__ keeps: the object's dict holds fs (of the further arguments) -/
def spInit (C : Addr) (n : Nat) (fs : List V → List (Str × V)) : Sp := fun vs H Q _ => ∃ (a : Addr) (ws : List V), vs = .ref a :: ws ∧ ws.length = n ∧ H a = some (exo a C none) ∧
  ∀ (H' : Hp) (dx : Addr), (∀ b u, H b = some u → b ≠ a → H' b = some u) → NoT H H' → H dx = none → dx ≠ a → H' a = some (exo a C (some dx)) → H' dx = some (exd dx (fs ws)) → Q .non H'
section
variable {CX : CXT} {P : Program} {w : World} {K : PySem.W.Frag} {mg : Str → Option Value} {base : Heap} {N ps : List Str} {F : NdefX.NF} {f C : Addr} {slf0 : Str}
/-- an error's __init__ by its body: super().__init__(text), then the fields -/
theorem init_of {n k : Nat} {fs : List V → List (Str × V)} {x : Str} {rest : List Stmt} {p0 p1 p2 p3 p4 pc : Pos} {jc : Nat} {doc pm ctv oc : Value} {od : Option Addr} {osl : Array (Option Value)} (T : OexC K C) (SF : SupF P K C f F) (SS : SupS slf0 N ps F) (hm : mg "super" = none)
    (lk : K.lookup f = some ⟨oc, od, .func (F.fd doc pm ctv), osl⟩)
    (hb : F.body = .Expr (supCall (.Constant (.str x) jc pc) p0 p1 p2 p3) p4 :: rest) (hl : ps.length = n + 1)
    (hev : ∀ L, ∃ pl : Sem Bool, eval (supCall (.Constant (.str x) jc pc) p0 p1 p2 p3) (NdefX.envF F f L) = (do
      let ov ← attributeBase (.Call (.Name "super" p0) [] [] p1) "__init__" (NdefX.envF F f L) (eval (.Call (.Name "super" p0) [] [] p1) (NdefX.envF F f L))
      standAt p2.atName
      let (g, first) ← holding [ov] (getMethod ov "__init__" pl)
      callWith p3 g first (backTo p3 (starEach [.Constant (.str x) jc pc] (NdefX.envF F f L))) []))
    (hsw : ∀ L, swapsWith (supCall (.Constant (.str x) jc pc) p0 p1 p2 p3) none p4.line (NdefX.envF F f L) = pure false)
    (hrest : ∀ (A : Around) (outer : List Env) (s : Shared) (H : Hp) (E : XK), ∃ t, PSs (NdefX.ncx CX P w K mg base N F f A outer s H E) rest t ∧ ∀ (a : Addr) (ws : List V) (H1 : Hp) (D : Ends), ws.length = n → H1 a = some (exo a C none) →
      (∀ (dx : Addr) (H2 : Hp), H1 dx = none → dx ≠ a → (∀ b u, H1 b = some u → b ≠ a → H2 b = some u) → NoT H1 H2 → H2 a = some (exo a C (some dx)) → H2 dx = some (exd dx (fs ws)) → D.nx (NdefX.startF N (.ref a :: ws) [none]) H2) → t D (NdefX.startF N (.ref a :: ws) [none]) H1) :
    FnOk P w K mg base CX (k + 1) f (F.fd doc pm ctv) ps (spInit C n fs) := by
  have hlen : ∀ vs H Q E, spInit C n fs vs H Q E → vs.length = ps.length := fun vs H Q E ⟨a, ws, e, hw, _⟩ => by rw [e, List.length_cons, hw, hl]
  refine ⟨hlen, fun A outer s H args us vs Q E hr e0 hbd r hsp => ?_⟩
  have hvl := hlen _ _ _ _ hsp
  have lim : s.heap.NoLimit := e0.mod.nolimit.keeps fun b o z => (e0.bs b o z).1
  have KX : K.In s.heap := e0.mod.kin.keeps fun b o z => (e0.bs b o z).1
  obtain ⟨a, ws, ev, hws, ea, q⟩ := hsp
  subst ev
  obtain ⟨cc, occ, dcc, slc, ecl, lkc⟩ := SF.cell
  have CA : NdefX.CellsAt F.cl ["__class__"] [none] s.heap H := by
    refine ⟨rfl, fun y c z => ?_, fun y1 y2 c z1 z2 => ?_, fun i y z => ?_⟩
    · rw [ecl] at z
      have hc2 : c = cc := by
        simp only [List.lookup] at z
        split at z
        · exact (Option.some.inj z).symm
        · cases z
      subst hc2
      exact ⟨(e0.bs _ _ (e0.mod.kin _ _ lkc)).2, some (.ref C), _, KX _ _ lkc, rfl⟩
    · rw [ecl] at z1 z2
      simp only [List.lookup] at z1 z2
      split at z1
      · rename_i h1
        split at z2
        · rename_i h2
          exact (beq_iff_eq.mp h1).trans (beq_iff_eq.mp h2).symm
        · cases z2
      · cases z1
    · cases i with
      | zero =>
        have z : y = "__class__" := by simpa using z.symm
        subst z
        exact ⟨cc, by rw [ecl]; rfl, fun v z => by cases z⟩
      | succ i => simp at z
  refine codeAny_call_function hr.depth (KX _ _ lk) rfl SS.sc.co SS.sc.gen rfl (PySem.W.codeRec_of KX SF.code) (hbd _ _ _ _ ?_)
  refine wpAny_newFunctionEnv SS.sc.nocell (fun ⟨y, _⟩ hy => SS.sc.par y (List.of_mem_zip hy).1) (fun h1 hns hsb => ⟨lim.fresh _ hsb, ?_⟩) SS.sc.kind
  show codeAny _ _ (.func F.body (NdefX.envF F f s.heap.objs.size)) _ _
  refine PySem.ks_codeAny_funcAt ?_
  have kp : ∀ b o, s.heap.get? b = some o → h1.get? b = some o := fun b o z => hsb.extBut b o (Nat.ne_of_lt (Heap.lt_size z)) (Heap.get?_push_of_some _ z)
  obtain ⟨t, pt, ft⟩ := hrest A outer s H E
  have I : Inv (NdefX.ncx CX P w K mg base N F f A outer s H E) [] (NdefX.startF N (.ref a :: ws) [none]) H { s with heap := h1, toks := s.toks + (ps.zip us).length } := NdefX.inv_startN SS.sc hr.hd e0 hvl r CA hns kp
  obtain ⟨pl, hpl⟩ := hev s.heap.objs.size
  rw [hb]
  refine PySem.ks_wpAt_execs_cons (PySem.ks_wpAt_Expr_any ?_ I.quiet (hsw _))
  refine sup_line (ps := ps) (pl := pl) (ta := tCons (tC (.str x)) tNil) T SF SS hm I rfl ea (pa_cons pe_str pa_nil) (fun H' kH kT => ⟨show 1 ≤ 1000 by decide, kH _ _ ea, fun b u z => z, fun s' I' => ?_⟩) rfl rfl hpl
  refine wpAt_of_wpAny (wpAny_mono (pt.run [] s' _ H' { nx := fun _ H2 => Q .non H2, rt := Q } I' (ft a ws H' _ hws (kH _ _ ea) fun dx H2 ndx nea k2 kT2 e1 e2 => ?_)) (fun fl s2 hs => ?_) fun e2 s2 hs => hs)
  · refine q H2 dx (fun b u z nb => k2 b u (kH b u z) nb) (fun b ps z => kT b ps (kT2 b ps z)) ?_ nea e1 e2
    cases hd : H dx with
    | none => rfl
    | some u => rw [kH _ _ hd] at ndx; cases ndx
  · have fin : ∀ {σ' : L2.St} {H' : Hp} {v : V} {u : Value}, Inv (NdefX.ncx CX P w K mg base N F f A outer s H E) [] σ' H' s2 → L2.RelV v u → Q v H' → CE outer P w H s Q u s2 :=
      fun {σ' H' v u} J rv q => ⟨v, H', J.os, J.bare, J.base, J.hok, rv, q⟩
    cases fl with
    | ret u =>
      obtain ⟨v, σ', H', J, rv, z⟩ := hs
      exact fin J rv z
    | next =>
      obtain ⟨σ', H', J, z⟩ := hs
      exact fin (v := V.non) (u := Value.none) J rfl z
    | brk =>
      obtain ⟨_, _, _, z⟩ := hs
      exact False.elim z
    | cont =>
      obtain ⟨_, _, _, z⟩ := hs
      exact False.elim z
end
end ES
namespace ES
open PySem PySem.Spec PyProof.Rows L2
/-- fields by the names of parameters, the last one first -/
def fsGo {T : Type} : List (Str × T) → List Str → List T → List (Str × T)
  | acc, f :: fl, v :: vs => fsGo ((f, v) :: acc) fl vs
  | acc, _, _ => acc
def fsOf {T : Type} (fl : List Str) (vs : List T) : List (Str × T) := fsGo [] fl vs
theorem ono {e C : Addr} {d : Option Addr} : ∀ ps, exo e C d ≠ .tbl ps := fun ps z => by
  have z' : HO.ext _ = HO.tbl ps := z
  cases z'
theorem xno {dx : Addr} {fs : List (Str × V)} : ∀ ps, exd dx fs ≠ .tbl ps := fun ps z => by
  have z' : HO.ext _ = HO.tbl ps := z
  cases z'
section
variable {CX : CXT} {P : Program} {w : World} {K : PySem.W.Frag} {mg : Str → Option Value} {base : Heap} {N ps : List Str} {F : NdefX.NF} {f C : Addr} {slf0 : Str}
abbrev stF (slf0 fld y : Str) (p1 p2 p3 p4 : Pos) : Stmt := .Assign [.Attribute (.Name slf0 p1) fld p2] (.Name y p3) p4
/-- one field -/
theorem rest1 {fld y : Str} {p1 p2 p3 p4 : Pos} (T : OexC K C) (hf : PySem.W.findIn K (.ref C) fld = some none) (SS : SupS slf0 N ps F) (h1 : N[1]? = some y) (hy : F.scope.names.lookup y = some .local) (hd0 : (slf0 == ("__debug__" : Str)) = false) (hd1 : (y == ("__debug__" : Str)) = false) (hc0 : (slf0 == ("__classdict__" : Str)) = false) (hc1 : (y == ("__classdict__" : Str)) = false)
    (hsw : ∀ L, swapsWith (.Name y p3) (some (.Attribute (.Name slf0 p1) fld p2)) p4.line (NdefX.envF F f L) = pure false) (A : Around) (outer : List Env) (s : Shared) (H : Hp) (E : XK) :
    ∃ t, PSs (NdefX.ncx CX P w K mg base N F f A outer s H E) [stF slf0 fld y p1 p2 p3 p4] t ∧ ∀ (a : Addr) (ws : List V) (H1 : Hp) (D : Ends), ws.length = 1 → H1 a = some (exo a C none) →
      (∀ (dx : Addr) (H2 : Hp), H1 dx = none → dx ≠ a → (∀ b u, H1 b = some u → b ≠ a → H2 b = some u) → NoT H1 H2 → H2 a = some (exo a C (some dx)) → H2 dx = some (exd dx (fsOf [fld] ws)) → D.nx (NdefX.startF N (.ref a :: ws) [none]) H2) → t D (NdefX.startF N (.ref a :: ws) [none]) H1 := by
  refine ⟨_, pss_one (ps_ost (pe_var (i := 0) SS.fst (.inl SS.slf) hd0 hc0) (pe_var (i := 1) h1 (.inl hy) hd1 hc1) (hsw _)), fun a ws H1 D hl ea q => ?_⟩
  match ws, hl with
  | [v], _ =>
    refine ⟨v, rfl, .ref a, rfl, a, C, rfl, T, hf, .inl ⟨ea, fun dx nd na => q dx _ nd na (fun b u z nb => ?_) (((NoT.refl _).upd xno).upd ono) upd_same ?_⟩⟩
    · rw [upd_ne nb, upd_ne (ne_of_none z nd)]
      exact z
    · rw [upd_ne na, upd_same]
      rfl
end
end ES
namespace DL
open PySem PySem.Spec PyProof.Rows L2
variable [TabC]
/-! ### raise -/
/-- an error class of the program, made with the fields fl -/
def GEx (P : Program) (w : World) (K : PySem.W.Frag) (mg : Str → Option Value) (base : Heap) (x : Str) (k : Nat) (fl : List Str) : Prop := ∃ (fI : Addr) (fd : FuncData) (ps : List Str), mg x = some (.ref (He.ga K x)) ∧ OexC K (He.ga K x) ∧
  PySem.W.findIn K (.ref (He.ga K x)) "__init__" = some (some (.ref fI)) ∧ PySem.W.typeIn K (.ref fI) = some (.type "function") ∧ Binds K fd ps [] ∧ FnOk P w K mg base (CX P w) k fI fd ps (ES.spInit (He.ga K x) fl.length (ES.fsOf fl))
def sRaise (C : Str) (fl : List Str) (m : EM (List D)) : SM := fun xq de s n => m xq s n fun ds n1 => ds.length = fl.length ∧ xq (C, ES.fsOf fl ds) n1
section
variable {K : PySem.W.Frag} {aS : Addr} {H : Hp} {A : AS}
theorem repF_go : ∀ {fl : List Str} {ds : List D} {vs : List V} {a : List (Str × D)} {b : List (Str × V)}, RepF K aS H A a b → RepL K aS H A ds vs → RepF K aS H A (ES.fsGo a fl ds) (ES.fsGo b fl vs)
  | [], _, _, _, _, r, _ => r
  | f :: fl, [], vs, a, b, r, q => by
    rw [RepL] at q
    subst q
    exact r
  | f :: fl, d :: ds, vs, a, b, r, q => by
    rw [RepL] at q
    obtain ⟨v, vr, e, r1, q1⟩ := q
    subst e
    refine repF_go (fl := fl) (a := (f, d) :: a) (b := (f, v) :: b) ?_ q1
    rw [RepF]
    exact ⟨v, b, rfl, r1, r⟩
theorem repF_fs {fl : List Str} {ds : List D} {vs : List V} (q : RepL K aS H A ds vs) : RepF K aS H A (ES.fsOf fl ds) (ES.fsOf fl vs) := repF_go (by rw [RepF]) q
end
section
variable {X : Cx} {E : XK} {O O' OL : List Nat} {e : Expr} {es : List Expr} {ml : EM (List D)} {pos p rpos : Pos} {x : Str} {fl : List Str} {k k' : Nat}
theorem vs_raise (hc : X.calm = true) (tk : TK X E) (G : GEx X.prog X.w X.K X.mg X.base x k fl) (hr : Room k' X.A) (hk : k + 1 ≤ k') (hg : Gl X x) (ha : VA Rep X E O (e :: es) ml) (hfl0 : fl.length ≤ 1000 := by decide) (hdb : (x == ("__debug__" : Str)) = false := by decide)
    (he : starEach (e :: es) X.env = (false, eval e X.env) :: starEach es X.env := by rfl) (hpl : (backTo pos (starEach es X.env)).any (·.1) = false := by rfl) :
    VS X E O O' OL (.Raise (some (.Call (.Name x p) (e :: es) [] pos)) none rpos) (sRaise x fl ml) := by
  obtain ⟨fI, fd, ps, hm, T, iC, tI, hb, F1⟩ := G
  obtain ⟨mn, t, pa, ft⟩ := ha
  refine ⟨_, ps_raise hc tk (pmk_oex T iC tI F1 (DL.Room.le hr hk) hb .nil (passes_call tk_f fun _ _ _ _ h => h) hg hm pa hdb he hpl), fun aS A0 H0 σ H s n xq de De S L kk h => ?_⟩
  refine ft aS A0 H0 σ H s n xq _ S L (mn _ _ _ _ _ (fun ds n1 q vs H1 k1 st1 r1 => ?_) h)
  obtain ⟨hl, q⟩ := q
  have rL := RL.repL r1
  have hvl : vs.length = fl.length := by rw [rL.length]; exact hl
  have hfl : vs.length ≤ 1000 := by omega
  refine ⟨hfl, fun a na => ?_⟩
  rw [List.append_nil]
  refine ⟨a, vs, rfl, hvl, upd_same, fun H' dx kp kT nd nda e1 e2 => ⟨rfl, dx, _, e1, e2, ?_, ?_⟩⟩
  · rw [upd_ne nda] at nd
    exact nd
  · rw [upd_ne nda] at nd
    have up : ∀ b u, H1 b = some u → upd (del H' a) dx (.xd (ES.fsOf fl vs)) b = some u := fun b u z => by
      rw [upd_ne (ne_of_none z nd), del_ne (ne_of_none z na)]
      exact kp b u (by rw [upd_ne (ne_of_none z na)]; exact z) (ne_of_none z na)
    have noT : ∀ b ps, upd (del H' a) dx (.xd (ES.fsOf fl vs)) b = some (.tbl ps) → H1 b = some (.tbl ps) := fun b ps z => by
      by_cases zb : b = dx
      · rw [zb, upd_same] at z; cases z
      · rw [upd_ne zb] at z
        by_cases za : b = a
        · rw [za, del_same] at z; cases z
        · rw [del_ne za] at z
          have y := kT b ps z
          rw [upd_ne za] at y
          exact y
    have S1 := S.step k1 st1
    have kpS : KpS aS H1 (upd (del H' a) dx (.xd (ES.fsOf fl vs))) := fun b u z _ => .of (up b u z)
    refine L x (ES.fsOf fl ds) n1 (some dx) _ (S1.fr.trans kpS) (st1.kp ⟨up, noT⟩) ⟨_, ?_, upd_same, ?_⟩ q
    · cases z : H0 dx with
      | none => rfl
      | some u =>
        by_cases hs : dx = aS
        · obtain ⟨xs, z2⟩ := st1.lst
          rw [hs, z2] at nd
          cases nd
        · exact (KpS.gone S1.fr nd z (hs)).elim
    · refine RepF.mono (sub_le fun b z => av_nil b z) _ _ (repF_fs (rL.kp kpS st1 AV.st))
end
end DL
namespace TR
open PySem PySem.Spec PyProof.Rows L2
/-! ### several except clauses, with names and without -/
abbrev Hd := Value × Option Nat × (Addr → Value → Option Addr → TS)
/-- behind a clause its name is gone -/
def dropN (i : Nat) (D : Ends) : Ends := { nx := fun σ H => D.nx (σ.set i none) H, rt := D.rt, bk := fun σ H => D.bk (σ.set i none) H, ct := fun σ H => D.ct (σ.set i none) H }
def runHd (ts : Addr → Value → Option Addr → TS) (D : Ends) (a : Addr) (cls : Value) (d : Option Addr) (σ : L2.St) (H : Hp) : Option Nat → Prop
  | none => ts a cls d D σ H
  | some i => ts a cls d (dropN i D) (σ.set i (some (.ref a))) H
def wMix (K : PySem.W.Frag) (Wout : WX) (D : Ends) : List Hd → WX
  | [] => Wout
  | (c, o, ts) :: r => fun cls d σ H => ∃ b, PySem.W.exmOne K cls c = some b ∧ (b = true → ∀ a, H a = none → runHd ts D a cls d σ H o) ∧ (b = false → wMix K Wout D r cls d σ H)
def NmOk (X : Cx) : Option Str → Option Nat → Prop
  | none, none => True
  | some n, some i => X.N[i]? = some n ∧ X.env.kindOf n = some .local
  | _, _ => False
inductive MixOk (X : Cx) : List ExceptHandler → List Hd → Prop
  | nil : MixOk X [] []
  | cons {x : Str} {c : Value} {ts : Addr → Value → Option Addr → TS} {b₀ : Stmt} {suite : List Stmt} {np pos' : Pos} {hds : List ExceptHandler} {l : List Hd} {n : Option Str} {o : Option Nat} (hc : Names X x c) (hn : NmOk X n o)
      (hsu : ∀ (a : Addr) (oe : Obj) (cls : Value) (d : Option Addr) (pn : List (Addr × Obj)), Zc cls d oe → (∃ vs, oe.data = .fields vs) → PSs (X.suite a ((a, oe) :: pn)) (b₀ :: suite) (ts a cls d)) (r : MixOk X hds l) :
      MixOk X (.ExceptHandler (some (.Name x np)) n (b₀ :: suite) pos' :: hds) ((c, o, ts) :: l)
section
variable {X : Cx} {body : List Stmt} {h₀ : ExceptHandler} {hds : List ExceptHandler} {l : List Hd} {pos : Pos} {tb : WX → TS} {Wout : WX}
theorem ps_try_mix (hs : X.stack = X.env :: X.outer) (hf : X.env.frame = some X.env.locals) (hN : X.N.Nodup) (tk : Takes X Wout)
    (hb : ∀ (W : WX) (pn : List (Addr × Obj)) (xe : Value → Shared → Prop), Takes (X.tr pn xe) W → PassesOwn (model X.prog X.w) X.A X.env xe → PSs (X.tr pn xe) body (tb W))
    (hh : MixOk X (h₀ :: hds) l) : PS X (.Try body (h₀ :: hds) [] [] pos) (fun D σ H => tb (wMix X.K Wout D l) D σ H) := by
  refine ⟨fun pins s σ H D I h => ?_⟩
  have ok := I.ok
  have frs0 : X.A.frames = some (X.env :: X.outer) := by rw [ok.frames, hs]
  -- what a body's end becomes
  have back : ∀ (xe : Value → Shared → Prop) (f : Flow) (s1 : Shared), SP (X.tr (X.pn ++ pins) xe) [] D f s1 → SP X pins D f s1 := fun xe f s1 q => by
    cases f with
    | ret u => obtain ⟨v, σ', H', J', r, z⟩ := q; exact ⟨v, σ', H', J'.ofTry ok, r, z⟩
    | next => obtain ⟨σ', H', J', z⟩ := q; exact ⟨σ', H', J'.ofTry ok, z⟩
    | brk => obtain ⟨σ', H', J', z⟩ := q; exact ⟨σ', H', J'.ofTry ok, z⟩
    | cont => obtain ⟨σ', H', J', z⟩ := q; exact ⟨σ', H', J'.ofTry ok, z⟩
  refine wpAny_Try_except ?_
  refine wpAny_mono ((hb (wMix X.K Wout D l) (X.pn ++ pins) (fun e s₁ => wpAny (model X.prog X.w) X.A (noteFrame e X.env) (fun _ s₂ => wpAny (model X.prog X.w) X.A (setFlight e none) (fun _ s₃ =>
    wpAny (model X.prog X.w) X.A (handleBy e X.env (h₀ :: hds)) (SP X pins D) X.xe s₃) X.xe s₂) X.xe s₁) (fun u s' xx => ?_) PassesOwn.looking).run [] s σ H D (I.toTry _) h) (fun f s1 hsp => ?_) (fun e s1 he => he)
  · obtain ⟨a, B, sI, pins', σ', H', cls, d, rfl, J', nb, up, sky, na, os, ag, w⟩ := xx
    have J : Inv X pins σ' H' sI := J'.ofTry ok
    rw [hs] at sky
    refine Sky.land Zc.steady frs0 hf sky fun h3 fl3 up3 => ?_
    have J3 : Inv X pins σ' H' { s' with heap := h3 } := J.landed nb fl3.1 (up.trans up3) os ag
    obtain ⟨oe3, vs3, he3, hz3, hd3⟩ := fl3.there
    have nfr : a ∉ frs (X.env :: X.outer) := fun hm => by
      obtain ⟨_, o', e', hnf⟩ := fl3.2.2.1.mem hm
      rw [he3] at e'
      cases e'
      exact hnf _ hd3
    have nL : a ≠ X.env.locals := fun z => nfr (List.mem_filterMap.mpr ⟨X.env, List.mem_cons_self, by rw [hf, z]⟩)
    have nF : a ∉ X.fs := fun hm => by
      obtain ⟨e, he, q⟩ := List.mem_filterMap.mp hm
      exact nfr (List.mem_filterMap.mpr ⟨e, List.mem_cons_of_mem _ he, q⟩)
    have S3 := J3.suite he3 hd3 na nL nF
    have LT : PySem.W.Looks (model X.prog X.w) h3 (typeOf (.ref a)) cls := fun A Q E s k q => wpAny_typeOf_ref (k _ _ he3) (by rw [hz3.1]; exact q)
    have go : ∀ {hds' : List ExceptHandler} {l' : List Hd}, MixOk X hds' l' → wMix X.K Wout D l' cls d σ' H' →
        wpAny (model X.prog X.w) X.A (handleBy (.ref a) X.env hds') (SP X pins D) X.xe { s' with heap := h3 } := by
      intro hds' l' hk
      induction hk with
      | nil =>
        intro w
        refine wpAny_handleBy_nil ?_
        obtain ⟨k1, k2, k3, oe, vs, T, oT, ts', he, hz, hd, h1, hr⟩ := id fl3
        unfold PySem.passOn
        refine wpAny_bind (wpAny_field he hd h1 ?_)
        rw [if_neg (show ¬ ((Value.ref T == Value.none) = true) from by simp)]
        have out : wpAny (model X.prog X.w) X.A (setFlight (.ref a) X.env.frame) (fun _ s4 => wpAny (model X.prog X.w) X.A (throw (.ref a) : Sem Flow) (SP X pins D) X.xe s4) X.xe { s' with heap := h3 } := by
          rw [hf]
          refine HandSPX.setFlight_upZ fl3 fun h4 hh4 up4 => wpAny_throw (tk _ _ ?_)
          exact ⟨a, B, sI, pins, σ', H', cls, d, rfl, J, nb, (up.trans up3).trans up4, .inr (.inr (by rw [hs]; exact hh4)), na, os, ag, w⟩
        first
          | exact wpAny_bind (wpAny_pure (wpAny_bind out))
          | exact wpAny_bind out
      | @cons x c ts b₀ suite np pos' hds2 l2 n o hc hn hsu r ih =>
        intro w
        obtain ⟨b, hb1, yes, no⟩ := w
        refine wpAny_handleBy_cons (codeAny_handlers_test ?_) (by intro q; cases q)
        have LM := PySem.W.exm_one (M := model X.prog X.w) J3.kIn LT hb1
        have test : ∀ {Q : Value → Shared → Prop} {E : Value → Shared → Prop}, Q c { s' with heap := h3 } → wpAny (model X.prog X.w) (X.A.mark (some (.ref a))) (eval (.Name x np) X.env) Q E { s' with heap := h3 } := fun {Q E} q => by
          obtain ⟨hg, hdbg, hm | ⟨hm, hv, hnn⟩⟩ := hc
          · exact ld_glob (X := X.suite a ((a, oe3) :: (X.pn ++ pins))) S3 hg hm q hdbg
          · exact ld_blt (X := X.suite a ((a, oe3) :: (X.pn ++ pins))) S3 hg hm hv q hnn hdbg
        refine test (LM.here ?_)
        cases b with
        | false => exact ih (no rfl)
        | true =>
          have q := yes rfl a na
          match n, o, hn, q with
          | none, none, _, q =>
            refine codeAny_handlers_suite (HandSPX.lands_againZ fl3 fun h4 fl4 up4 => ?_)
            have J4 : Inv X pins σ' H' { s' with heap := h4 } := J.landed nb fl4.1 ((up.trans up3).trans up4) os ag
            obtain ⟨oe4, vs4, he4, hz4, hd4⟩ := fl4.there
            refine wpAny_mono ((hsu a oe4 cls d (X.pn ++ pins) hz4 ⟨_, hd4⟩).run [] _ _ H' _ (J4.suite he4 hd4 na nL nF) q) (fun f s6 hsp => ?_) (fun _ _ z => False.elim z)
            cases f with
            | ret u => obtain ⟨v6, σ6, H6, S6, r6, q6⟩ := hsp; exact ⟨_, _, _, S6.unsuite ok, r6, q6⟩
            | next => obtain ⟨σ6, H6, S6, q6⟩ := hsp; exact ⟨_, _, S6.unsuite ok, q6⟩
            | brk => obtain ⟨σ6, H6, S6, q6⟩ := hsp; exact ⟨_, _, S6.unsuite ok, q6⟩
            | cont => obtain ⟨σ6, H6, S6, q6⟩ := hsp; exact ⟨_, _, S6.unsuite ok, q6⟩
          | some n, some i, ⟨hi, hln⟩, q =>
            refine codeAny_handlers_suite_as (HandSPX.lands_againZ fl3 fun h4 fl4 up4 => ?_)
            have J4 : Inv X pins σ' H' { s' with heap := h4 } := J.landed nb fl4.1 ((up.trans up3).trans up4) os ag
            obtain ⟨oe4, vs4, he4, hz4, hd4⟩ := fl4.there
            refine store_ok (X := X.suite a ((a, oe4) :: (X.pn ++ pins))) (v := .ref a) (J4.suite he4 hd4 na nL nF) hN hi (.inl hln) rfl (fun s5 S5 => ?_) (.inr hln)
            refine wpAny_mono ((hsu a oe4 cls d (X.pn ++ pins) hz4 ⟨_, hd4⟩).run [] s5 _ H' _ S5 q) (fun f s6 hsp => ?_) (fun _ _ z => False.elim z)
            cases f with
            | ret u => obtain ⟨v6, σ6, H6, S6, r6, q6⟩ := hsp; exact gone_ok (S6.unsuite ok) hN hi hln fun s7 J7 => ⟨_, _, _, J7, r6, q6⟩
            | next => obtain ⟨σ6, H6, S6, q6⟩ := hsp; exact gone_ok (S6.unsuite ok) hN hi hln fun s7 J7 => ⟨_, _, J7, q6⟩
            | brk => obtain ⟨σ6, H6, S6, q6⟩ := hsp; exact gone_ok (S6.unsuite ok) hN hi hln fun s7 J7 => ⟨_, _, J7, q6⟩
            | cont => obtain ⟨σ6, H6, S6, q6⟩ := hsp; exact gone_ok (S6.unsuite ok) hN hi hln fun s7 J7 => ⟨_, _, J7, q6⟩
    exact go hh w
  · cases f with
    | ret u => exact back _ _ _ hsp
    | next => exact wpAny_execs_nil (back _ _ _ hsp)
    | brk => exact back _ _ _ hsp
    | cont => exact back _ _ _ hsp
end
end TR
namespace TR
open PySem PySem.Spec PyProof.Rows L2
/-! ### found = .. in an except clause -/
/-- what a clause makes of the error: a word with a field, with the list of a field, a word alone, a word with None, a field alone -/
inductive HV where
  | fld (w f : Str) | lst (w f : Str) | str (w : Str) | nonp (w : Str) | bare (f : Str)
abbrev HE := Addr × Option Nat × HV
abbrev rLst (K : PySem.W.Frag) : List V → Hp → VK → Prop := DL.rListT K
def tsOf (K : PySem.W.Frag) (j : Nat) : HE → Addr → Value → Option Addr → TS
  | (C, o, .fld w f) => fun a cls d => tAsg (tTup (tCons (tC (.str w)) (tCons (tXf a cls d C f (tVar (o.getD 0))) tNil))) (gName j)
  | (C, o, .lst w f) => fun a cls d => tAsg (tTup (tCons (tC (.str w)) (tCons (tCB (rLst K) (tCons (tXf a cls d C f (tVar (o.getD 0))) tNil)) tNil))) (gName j)
  | (_, _, .str w) => fun _ _ _ => tAsg (tC (.str w)) (gName j)
  | (_, _, .nonp w) => fun _ _ _ => tAsg (tTup (tCons (tC (.str w)) (tCons (tC .non) tNil))) (gName j)
  | (C, o, .bare f) => fun a cls d => tAsg (tXf a cls d C f (tVar (o.getD 0))) (gName j)
def hdOf (K : PySem.W.Frag) (j : Nat) (e : HE) : Hd := (.ref e.1, e.2.1, tsOf K j e)
/-- the same as a wish of the value -/
def hvW (K : PySem.W.Frag) (C : Addr) (cls : Value) (d : Option Addr) (H : Hp) (Q : VK) : HV → Prop
  | .fld w f => cls = .ref C ∧ ∃ (dd : Addr) (fs : List (Str × V)) (v : V), d = some dd ∧ H dd = some (.xd fs) ∧ fs.lookup f = some v ∧ ∀ p, H p = none → Q (.ref p) (upd H p (.tup [.str w, v]))
  | .lst w f => cls = .ref C ∧ ∃ (dd : Addr) (fs : List (Str × V)) (p : Addr) (xs : List V), d = some dd ∧ H dd = some (.xd fs) ∧ fs.lookup f = some (.ref p) ∧ (SqL K H p xs ∨ SqT K H p xs) ∧
      ∀ l, H l = none → ∀ t, upd H l (.lst xs) t = none → Q (.ref t) (upd (upd H l (.lst xs)) t (.tup [.str w, .ref l]))
  | .str w => Q (.str w) H
  | .nonp w => ∀ p, H p = none → Q (.ref p) (upd H p (.tup [.str w, .non]))
  | .bare f => cls = .ref C ∧ ∃ (dd : Addr) (fs : List (Str × V)) (v : V), d = some dd ∧ H dd = some (.xd fs) ∧ fs.lookup f = some v ∧ Q v H
def hw (K : PySem.W.Frag) (Q : VK) : List HE → Value → Option Addr → Hp → Prop
  | [], _, _, _ => False
  | e :: r, cls, d, H => ∃ b, PySem.W.exmOne K cls (.ref e.1) = some b ∧ (b = true → hvW K e.1 cls d H Q e.2.2) ∧ (b = false → hw K Q r cls d H)
/-- a clause with a field has a name, and not found's -/
def heOk (n j : Nat) : HE → Prop
  | (_, some i, _) => i < n ∧ i ≠ j
  | (_, none, .str _) => True
  | (_, none, .nonp _) => True
  | _ => False
theorem hw_mix {K : PySem.W.Frag} {Q : VK} {D : Ends} {n j : Nat} (hj : j < n) (hD : ∀ (σ : L2.St) (H : Hp) (v : V), σ[j]? = some (some v) → Q v H → D.nx σ H) :
    ∀ (l : List HE) (cls : Value) (d : Option Addr) (σ : L2.St) (H : Hp), (∀ e ∈ l, heOk n j e) → σ.length = n → hw K Q l cls d H → wMix K (fun _ _ _ _ => False) D (l.map (hdOf K j)) cls d σ H
  | [], _, _, _, _, _, _, h => h.elim
  | (C, o, v) :: l, cls, d, σ, H, ok, hn, h => by
    obtain ⟨b, hb, yes, no⟩ := h
    have ok1 := ok _ List.mem_cons_self
    refine ⟨b, hb, fun e a na => ?_, fun e => hw_mix hj hD l cls d σ H (fun e he => ok e (List.mem_cons_of_mem _ he)) hn (no e)⟩
    have y := yes e
    have two : ([V.non, V.non] : List V).length ≤ sizeLine := by rw [sizeLine_eq]; decide
    match o, v, ok1, y with
    | some i, .fld w f, ⟨hi, hij⟩, ⟨ec, dd, fs, u, ed, ha, hl, q⟩ =>
      refine ⟨.ref a, List.getElem?_set_self (by omega), rfl, ec, dd, fs, u, ed, ha, hl, two, fun p hp => hD _ _ (.ref p) ?_ (q p hp)⟩
      rw [List.getElem?_set_ne hij, List.getElem?_set_self (by rw [List.length_set]; omega)]
    | some i, .bare f, ⟨hi, hij⟩, ⟨ec, dd, fs, u, ed, ha, hl, q⟩ =>
      refine ⟨.ref a, List.getElem?_set_self (by omega), rfl, ec, dd, fs, u, ed, ha, hl, hD _ _ u ?_ q⟩
      rw [List.getElem?_set_ne hij, List.getElem?_set_self (by rw [List.length_set]; omega)]
    | some i, .lst w f, ⟨hi, hij⟩, ⟨ec, dd, fs, u, xs, ed, ha, hl, hs, q⟩ =>
      refine ⟨.ref a, List.getElem?_set_self (by omega), rfl, ec, dd, fs, .ref u, ed, ha, hl, u, xs, rfl, hs, fun k hk => ⟨two, fun p hp => hD _ _ (.ref p) ?_ (q k hk p hp)⟩⟩
      rw [List.getElem?_set_ne hij, List.getElem?_set_self (by rw [List.length_set]; omega)]
    | some i, .str w, ⟨hi, hij⟩, y =>
      refine hD _ _ (.str w) ?_ y
      rw [List.getElem?_set_ne hij, List.getElem?_set_self (by rw [List.length_set]; omega)]
    | some i, .nonp w, ⟨hi, hij⟩, y =>
      refine ⟨two, fun p hp => hD _ _ (.ref p) ?_ (y p hp)⟩
      rw [List.getElem?_set_ne hij, List.getElem?_set_self (by rw [List.length_set]; omega)]
    | none, .str w, _, y => exact hD _ _ (.str w) (List.getElem?_set_self (by omega)) y
    | none, .nonp w, _, y => exact ⟨two, fun p hp => hD _ _ (.ref p) (List.getElem?_set_self (by omega)) (y p hp)⟩
theorem takes_len {X : Cx} {W : WX} (t : Takes X W) : Takes X (fun c d σ H => σ.length = X.N.length → W c d σ H) := fun u s' ⟨a, B, sI, pins, σ, H, cls, d, e, I, nb, up, sky, na, os, ag, w⟩ =>
  t u s' ⟨a, B, sI, pins, σ, H, cls, d, e, I, nb, up, sky, na, os, ag, w I.len⟩
/-! ### the def that tries what it got -/
/-- what it makes of the call: nothing (found stays None), a pair with a word -/
inductive OKF where
  | drop | told (w : Str)
/-- behind the call, found read again: in the very slots -/
def okW (σ : L2.St) (Q : VK) (v : V) (H : Hp) : OKF → Prop
  | .drop => tVar 1 σ H Q
  | .told w => 2 ≤ sizeLine ∧ ∀ p, H p = none → tVar 1 (σ.set 1 (some (.ref p))) (upd H p (.tup [.str w, v])) Q
def TTried (K : PySem.W.Frag) (Ng : List Str) (ok : OKF) (l : List HE) : (XK → Hp → VK → Prop) → Hp → VK → Prop := fun tl H Q => ∀ f : Addr, ∃ Ech : XK, (∀ cls d H', Ech cls d H' → hw K Q l cls d H') ∧ tl Ech H fun v H' => okW ((L2.start Ng [V.ref f]).set 1 (some .non)) Q v H' ok
section
variable {X : Cx}
abbrev ZX (X : Cx) (Ng : List Str) (x : Str) (sg : Scope) (g : Addr) (cdg : Value) (s : Shared) (H : Hp) : Cx := (cxOf C8.CX0 X.prog X.w X.K X.mg X.base Ng x sg g cdg X.A X.stack s H C8.E0).nox
abbrev bodyT (ok : OKF) (a fd : Str) (k1 k2 : Nat) (p1 p2 p3 p4 p5 p6 : Pos) : Stmt := match ok with
  | .drop => .Expr (.Call (.Name a p1) [] [] p2) p3
  | .told w => .Assign [.Name fd p4] (.Tuple [.Constant (.str w) k1 p5, .Call (.Name a p1) [] [] p2] k2 p6) p3
theorem tried_gives {Ng : List Str} {x a fd q : Str} {sg : Scope} {g : Addr} {cdg : Value} {ok : OKF} {l : List HE} {h₀ : ExceptHandler} {hds : List ExceptHandler} {j0 k1 k2 : Nat} {p1 p2 p3 p4 p5 p6 q1 q2 q3 q4 q5 q6 q7 : Pos}
    (nd : Ng.Nodup) (h1 : Ng[1]? = some fd) (hlf : sg.names.lookup fd = some .local) (hlen : 2 ≤ Ng.length) (hl : ∀ e ∈ l, heOk Ng.length 1 e) (hd : (fd == ("__debug__" : Str)) = false := by decide) (hcd : (fd == ("__classdict__" : Str)) = false := by decide)
    (hsw1 : ∀ s H, swapsWith (.Constant .none j0 q2) (some (.Name fd q1)) q3.line (ZX X Ng x sg g cdg s H).env = pure false := by intros; rfl)
    (hsw2 : ∀ s H, swapsWith (.Call (.Name a p1) [] [] p2) none p3.line (ZX X Ng x sg g cdg s H).env = pure false := by intros; rfl)
    (hsw3 : ∀ w s H, swapsWith (.Tuple [.Constant (.str w) k1 p5, .Call (.Name a p1) [] [] p2] k2 p6) (some (.Name fd p4)) p3.line (ZX X Ng x sg g cdg s H).env = pure false := by intros; rfl)
    (hh : ∀ s H, MixOk (ZX X Ng x sg g cdg s H) (h₀ :: hds) (l.map (hdOf X.K 1))) :
    LamX.GivesTo X Ng x sg g cdg [.Assign [.Name fd q1] (.Constant .none j0 q2) q3, .Try [bodyT ok a fd k1 k2 p1 p2 p3 p4 p5 p6] (h₀ :: hds) [] [] q4, .Return (some (.Name fd q5)) q6] a q (TTried X.K Ng ok l) := by
  intro f c' s H Q tl act hc h
  obtain ⟨Ech, hE, htl⟩ := h f
  have hj : 1 < Ng.length := hlen
  let D0 : Ends := { nx := fun _ H' => Q .non H', rt := Q }
  let D1 : Ends := { D0 with nx := fun σ H => tRet (tVar 1) D0 σ H }
  have z0 : ((L2.start Ng [V.ref f]).set 1 (some V.non))[0]? = some (some (.ref f)) := by
    rw [List.getElem?_set_ne (by decide)]
    rfl
  have mixed : ∀ cls d σ' H', Ech cls d H' → σ'.length = Ng.length → wMix X.K (fun _ _ _ _ => False) D1 (l.map (hdOf X.K 1)) cls d σ' H' := fun cls d σ' H' z hz =>
    hw_mix (D := D1) hj (fun σ H v e q => (⟨v, e, q⟩ : tVar 1 σ H Q)) l cls d σ' H' hl hz (hE cls d H' z)
  cases ok with
  | drop =>
    refine ⟨_, pss_cons (ps_set (i := 1) nd h1 (.inl hlf) pe_non (hsw1 s H) (.inr hlf)) (pss_cons (ps_try_mix (X := ZX X Ng x sg g cdg s H) (Wout := fun _ _ _ _ => False)
      (tb := fun W D σ H => ∃ Ec : XK, (∀ cls d σ' H', Ec cls d H' → σ'.length = Ng.length → W cls d σ' H') ∧ σ[0]? = some (some (.ref f)) ∧ H c' = some (LamX.CodeO c' q) ∧ tl Ec H fun _ H1 => D.nx σ H1)
      rfl rfl nd LamX.takes0 (fun W pn xe tk _ => ⟨fun pins s' σ H' D I h' => ?_⟩) (hh s H)) (pss_one (ps_ret (pe_var h1 (.inl hlf) hd hcd)))), ?_⟩
    · obtain ⟨Ec, hW, e0, ec, ht⟩ := h'
      have hp := act (fun c d σ H => σ.length = Ng.length → W c d σ H) pn xe Ec p1 p2 (takes_len (X := (ZX X Ng x sg g cdg s H).tr pn xe) tk) hW
      exact (pss_one (ps_expr hp (hsw2 s H))).run pins s' σ H' D I ⟨e0, ec, ht⟩
    · exact ⟨Ech, mixed, z0, hc, htl⟩
  | told w =>
    refine ⟨_, pss_cons (ps_set (i := 1) nd h1 (.inl hlf) pe_non (hsw1 s H) (.inr hlf)) (pss_cons (ps_try_mix (X := ZX X Ng x sg g cdg s H) (Wout := fun _ _ _ _ => False)
      (tb := fun W D σ H => ∃ Ec : XK, (∀ cls d σ' H', Ec cls d H' → σ'.length = Ng.length → W cls d σ' H') ∧ σ[0]? = some (some (.ref f)) ∧ H c' = some (LamX.CodeO c' q) ∧ tl Ec H fun v H1 => 2 ≤ sizeLine ∧ ∀ p, H1 p = none → D.nx (σ.set 1 (some (.ref p))) (upd H1 p (.tup [.str w, v])))
      rfl rfl nd LamX.takes0 (fun W pn xe tk _ => ⟨fun pins s' σ H' D I h' => ?_⟩) (hh s H)) (pss_one (ps_ret (pe_var h1 (.inl hlf) hd hcd)))), ?_⟩
    · obtain ⟨Ec, hW, e0, ec, ht⟩ := h'
      have hp := act (fun c d σ H => σ.length = Ng.length → W c d σ H) pn xe Ec p1 p2 (takes_len (X := (ZX X Ng x sg g cdg s H).tr pn xe) tk) hW
      exact (pss_one (ps_set (i := 1) nd h1 (.inl hlf) (pe_tup (pa_cons pe_str (pa_cons hp pa_nil))) (hsw3 w s H) (.inr hlf))).run pins s' σ H' D I ⟨e0, ec, ht⟩
    · exact ⟨Ech, mixed, z0, hc, htl⟩
end
end TR
namespace TR
open PySem PySem.Spec PyProof.Rows L2 DL LamX
variable [TabC]
/-! ### a lambda is made: what the heap becomes -/
/-- everything stays, tables may grow -/
def KpA (H H1 : Hp) : Prop := ∀ b u, H b = some u → Kp1 u (H1 b)
section
variable {X : Cx} {pins : List (Addr × Obj)} {σ : L2.St} {H : Hp} {s : Shared}
/-- one more code object, told in the table at P -/
theorem tba_grow {P c' : Addr} {q : Str} {ps : Array Value} {pos : Pos} (t : TbA H) (hP : H P = some (.tbl ps)) (hm : (P, q) ∈ TabC.T) (hu : ∀ p ∈ TabC.T, p.1 = P → p.2 = q) (nC : H c' = none) :
    KpA H (upd (upd H P (.tbl (ps ++ #[rawInt pos.line, rawInt pos.col, .ref c']))) c' (CodeO c' q)) ∧ TbA (upd (upd H P (.tbl (ps ++ #[rawInt pos.line, rawInt pos.col, .ref c']))) c' (CodeO c' q)) := by
  have nPc : P ≠ c' := ne_of_none hP nC
  have away : ∀ b, b ≠ P → b ≠ c' → upd (upd H P (.tbl (ps ++ #[rawInt pos.line, rawInt pos.col, .ref c']))) c' (CodeO c' q) b = H b := fun b h1 h2 => by rw [upd_ne h2, upd_ne h1]
  have atP : upd (upd H P (.tbl (ps ++ #[rawInt pos.line, rawInt pos.col, .ref c']))) c' (CodeO c' q) P = some (.tbl (ps ++ #[rawInt pos.line, rawInt pos.col, .ref c'])) := by rw [upd_ne nPc, upd_same]
  have keep : KpA H (upd (upd H P (.tbl (ps ++ #[rawInt pos.line, rawInt pos.col, .ref c']))) c' (CodeO c' q)) := fun b u e => by
    by_cases hb : b = P
    · rw [hb, hP] at e
      cases e
      rw [hb, atP]
      exact ⟨_, rfl⟩
    · rw [away b hb (ne_of_none e nC)]
      exact .of e
  have code : ∀ c0, H c0 = some (CodeO c0 q) → upd (upd H P (.tbl (ps ++ #[rawInt pos.line, rawInt pos.col, .ref c']))) c' (CodeO c' q) c0 = some (CodeO c0 q) := fun c0 e => keep c0 _ e
  obtain ⟨ps0, g1, g2, g3⟩ := t.1 _ hm
  have ep : ps0 = ps := by
    have z := g1.symm.trans hP
    cases z
    rfl
  subst ep
  have eL : (ps0 ++ #[rawInt pos.line, rawInt pos.col, .ref c']).toList = ps0.toList ++ [rawInt pos.line, rawInt pos.col, .ref c'] := by simp
  refine ⟨keep, fun p hp => ?_, fun b qs e => ?_⟩
  · by_cases hb : p.1 = P
    · have hq := hu p hp hb
      refine ⟨_, by rw [hb]; exact atP, by rw [eL]; exact PySem.TriplesOk_snoc _ _ _ _ g2, fun p' cv hcv => ?_⟩
      rw [eL] at hcv
      rw [hq]
      refine (among_app _ g2 hcv).elim (fun z => ?_) fun z => ⟨c', z, upd_same⟩
      exact (g3 p' cv z).imp fun c0 ⟨e1, e2⟩ => ⟨e1, code c0 e2⟩
    · obtain ⟨ps', a1, a2, a3⟩ := t.1 p hp
      refine ⟨ps', by rw [away _ hb (ne_of_none a1 nC)]; exact a1, a2, fun p' cv hcv => ?_⟩
      exact (a3 p' cv hcv).imp fun c0 ⟨e1, e2⟩ => ⟨e1, keep c0 _ e2⟩
  · by_cases hb : b = P
    · trivial
    · by_cases hc : b = c'
      · rw [hc, upd_same] at e
        have e : some (HO.ext _) = some (HO.tbl qs) := e
        cases e
      · rw [away b hb hc] at e
        exact t.2 b qs e
theorem lam_new {c P : Addr} {params : Arguments} {body : Expr} {scope : Scope} {pos : Pos} {E : Value → Shared → Prop} {Q : Value → Shared → Prop} (I : Inv X pins σ H s) (TB : TabB X.base X.mg c P) (hcode : X.env.code = .ref c)
    (hm : (P, X.env.qual ++ "<lambda>") ∈ TabC.T) (hu : ∀ p ∈ TabC.T, p.1 = P → p.2 = X.env.qual ++ "<lambda>") (t : TbA H) (hdef : defaultsOf params X.env = ([], [])) (hfree : ∀ y ∈ scope.names, y.2 = .free → ∃ c, X.env.cells.lookup y.1 = some c)
    (h : ∀ (f c' : Addr) (pm ctv : Value) (H1 : Hp) (s' : Shared), Inv X pins σ H1 s' → KpA H H1 → TbA H1 →
      s'.heap.get? f = some (PySem.W.kla_obj "<lambda>" (X.env.qual ++ "<lambda>") params body scope (cloFrom X.env.cells scope.names []) pm c' ctv) → H1 f = none → f ∉ frs X.stack → H1 c' = some (CodeO c' (X.env.qual ++ "<lambda>")) → Q (.ref f) s') :
    wpAny (model X.prog X.w) X.A (eval (.Lambda params body scope pos) X.env) Q E s := by
  obtain ⟨ps, hP, ht, ha⟩ := t.1 _ hm
  have sP : s.heap.get? P = some { cls := .none, data := .fields ps } := I.hok P _ hP
  have out : ∀ f, s.heap.objs.size ≤ f → f ∉ frs X.stack := fun f hf z => (List.mem_cons.mp (I.stkSub _ z)).elim (fun e => by
    have lt := I.lt
    rw [← e] at lt
    exact Nat.lt_irrefl _ (Nat.lt_of_lt_of_le lt hf)) (I.nofs hf)
  refine PySem.W.kla_eval hdef ?_
  cases hc : codeAmong pos ps.toList with
  | some cv =>
    obtain ⟨c', e, hco⟩ := ha pos cv hc
    subst e
    refine PySem.W.kla_makeFunctionHit (mg := X.mg) (c := c) (P := P) (ps := ps) (closure_ok hfree) I.ok.glob (I.mod.glob.keeps I.bk) hcode (TB.code.keeps I.bk) sP ht hc (TB.bm.keeps I.bk) fun ctv h' tk hx hsz => ?_
    exact h _ c' _ ctv H _ (I.kept fun b o e => Heap.get?_push_of_some _ (hx b o e)) (fun b u e => .of e) t (Heap.get?_push_size _ rfl) (I.hok.fresh hsz) (out _ hsz) hco
  | none =>
    refine PySem.W.kla_makeFunction (mg := X.mg) (c := c) (P := P) (ps := ps) (closure_ok hfree) I.ok.glob (I.mod.glob.keeps I.bk) hcode (TB.code.keeps I.bk) sP ht hc TB.gP (TB.bm.keeps I.bk) fun c' ctv h' tk hx hge hlt hrec htb => ?_
    obtain ⟨c2, oc, vs, tt, e2, hoc, hd, hv⟩ := hrec
    cases e2
    have hsz : s.heap.objs.size ≤ h'.objs.size := Nat.le_trans hge (Nat.le_of_lt hlt)
    have nC : H c' = none := I.hok.fresh hge
    obtain ⟨kp, tb⟩ := tba_grow (pos := pos) t hP hm hu nC
    have J := inv_table (t' := tk) (more := #[rawInt pos.line, rawInt pos.col, .ref c']) (h' := h'.push (PySem.W.kla_obj "<lambda>" (X.env.qual ++ "<lambda>") params body scope (cloFrom X.env.cells scope.names []) ((X.mg "__name__").getD .none) c' ctv)) I hP
      (fun b o hb e => Heap.get?_push_of_some _ (hx b o hb e)) (Heap.get?_push_of_some _ htb) hge ⟨oc, vs, tt, Heap.get?_push_of_some _ hoc, hd, hv⟩
    refine h _ c' _ ctv _ _ J kp tb (Heap.get?_push_size _ rfl) ?_ (out _ hsz) upd_same
    have lP := Heap.lt_size sP
    rw [upd_ne (Nat.ne_of_gt hlt), upd_ne (Nat.ne_of_gt (Nat.lt_of_lt_of_le lP hsz))]
    exact I.hok.fresh hsz
end
def tLamA (TT : (XK → Hp → VK → Prop) → Hp → VK → Prop) (t : XK → TE) : TE := fun σ H Q => TbA H ∧ ∀ H1, KpA H H1 → TbA H1 → TT (fun E H' Q' => t E σ H' Q') H1 Q
section
variable {X : Cx}
theorem pe_tried {TT : (XK → Hp → VK → Prop) → Hp → VK → Prop} {x a : Str} {g c P : Addr} {k : Nat} {pg : Arguments} {bg : List Stmt} {sg : Scope} {dV kV doc pm cdv ct oc : Value} {an od : Option Addr} {osl : Array (Option Value)} {Ng : List Str}
    {params : Arguments} {body : Expr} {scope : Scope} {t : XK → TE} {p lpos pos : Pos} (hg : Gl X x) (hm : X.mg x = some (.ref g)) (hk : PySem.W.keepIn X.K (.ref g) = true)
    (lk : X.K.lookup g = some ⟨oc, od, .func (PySem.W.fnOf x x pg bg sg dV kV doc pm an cdv ct), osl⟩) (hcg : PySem.W.codeIn X.K cdv x = true) (hb : L2.Binds X.K (PySem.W.fnOf x x pg bg sg dV kV doc pm an cdv ct) [a] []) (Sg : FnScope Ng [a] sg) (hNg : Ng[0]? = some a) (hva : Vis sg a)
    (hG : GivesTo X Ng x sg g cdv bg a (X.env.qual ++ "<lambda>") TT)
    (TB : TabB X.base X.mg c P) (hcode : X.env.code = .ref c) (hmT : (P, X.env.qual ++ "<lambda>") ∈ TabC.T) (hu : ∀ p ∈ TabC.T, p.1 = P → p.2 = X.env.qual ++ "<lambda>") (hr : Room (k + 2) X.A) (L : LamS X.env.scope scope) (hdef : defaultsOf params X.env = ([], []))
    (hbind : ∀ (q : Str) (cl : List (Str × Addr)) (pm cv ctv : Value), bindArgs (PySem.W.kla_fn "<lambda>" q params body scope cl pm cv ctv) ⟨[], []⟩ = pure [])
    (hbody : ∀ (A : Around) (outer : List Env) (s : Shared) (H : Hp) (E : XK) (f c' : Addr), Room k (A.deeper (lamEnv X scope s.heap.objs.size f c')) → PE (lamCx X A outer s H E scope f c') body (t E))
    (hdb : (x == ("__debug__" : Str)) = false := by decide) (hd : (a == ("__debug__" : Str)) = false := by decide) (hcd : (a == ("__classdict__" : Str)) = false := by decide) :
    PE X (.Call (.Name x p) [.Lambda params body scope lpos] [] pos) (tLamA TT t) := by
  refine ⟨fun pins s σ H Q I ⟨hT, h⟩ => ?_⟩
  refine wpAny_Call_Name_kw (ld_glob I hg hm ?_ hdb)
  refine PySem.W.callWith_K (h₀ := X.base) I.ok.mod.kin hk ?_ (by rfl) (by rfl)
  show wpAny _ _ (spliced ((false, eval (.Lambda params body scope lpos) X.env) :: backTo pos (starEach [] X.env))) _ _ s
  refine Calls.spliced_cons (lam_new I TB hcode hmT hu hT hdef (L.has I.ok) fun f c' pm' ctv H1 s' J kp tb hf hfn hfr hco => ?_)
  refine Calls.spliced_nil ⟨J.kIn, ?_⟩
  have run : codeAny (model X.prog X.w) X.A (.call (.ref g) ⟨[.ref f], []⟩) (CR C8.CX0 X.stack X.prog X.w H1 s' Q C8.E0) s' := by
    refine run_ofS (N := Ng) (ps := [a]) (us := [.ref f]) (vs := [.ref f]) lk hcg Sg hr J.env0 (hb s' [.ref f] J.kIn rfl) (.cons rfl .nil) rfl fun hr' => ?_
    obtain ⟨t', pt, qt⟩ := hG f c' s' H1 Q (fun E H' Q' => t E σ H' Q') (fun W pn xe E p1 p2 tk hW => pe_act (i := 0) J L hf hfn hfr (hbind _ _ _ _ _) tk hW hr' (fun A outer s H hr2 => hbody A outer s H E f c' hr2) hNg hva hd hcd) hco (h H1 kp tb)
    exact ⟨t', pt.nox, qt⟩
  refine wpAny_call (codeAny_mono run fun r s2 hq => ?_)
  match r, hq with
  | .ok (.ret u), hq => exact J.after hq
  | .ok .next, hq => exact False.elim hq
  | .ok .brk, hq => exact False.elim hq
  | .ok .cont, hq => exact False.elim hq
  | .error e, hq => exact False.elim hq
end
end TR
namespace DL
open PySem PySem.Spec PyProof.Rows L2 LamX TR
variable [TabC]
/-! ### x(lambda: e) by data -/
def hvD : HV → List (Str × D) → Option D
  | .fld w f, fs => (fs.lookup f).map fun d => .tup [.str w, d]
  | .lst w f, fs => match fs.lookup f with
    | some (.lst xs) => some (.tup [.str w, .lst xs])
    | some (.tup xs) => some (.tup [.str w, .lst xs])
    | _ => none
  | .str w, _ => some (.str w)
  | .nonp w, _ => some (.tup [.str w, .non])
  | .bare f, fs => fs.lookup f
def okD1 : OKF → D → D
  | .drop, _ => .non
  | .told w, d => .tup [.str w, d]
abbrev HS := List (Str × Option Nat × HV)
def hpick : HS → Str → Option HV
  | [], _ => none
  | (C, _, v) :: r, c => if C = c then some v else hpick r c
def eTried (ok : OKF) (hs : HS) (O : List Nat) (m : EM D) : EM D := fun xq s n Q => ∃ (xq0 : XQ) (Q0 : D → Nat → Prop), (∀ x n', xq0 x n' → ∃ hv d, hpick hs x.1 = some hv ∧ hvD hv x.2 = some d ∧ Q d n') ∧ (∀ d n', Q0 d n' → Q (okD1 ok d) n') ∧ m xq0 (hideL s O) n Q0
theorem mn_tried {ok : OKF} {hs : HS} {O : List Nat} {m : EM D} : Mn (eTried ok hs O m) := fun xq s n Q Q' hq ⟨x0, q0, h1, h2, h3⟩ => ⟨x0, q0, fun x n' z => let ⟨hv, d, e1, e2, q⟩ := h1 x n' z; ⟨hv, d, e1, e2, hq _ _ q⟩, fun d n' z => hq _ _ (h2 d n' z), h3⟩
section
variable {K : PySem.W.Frag} {aS : Addr} {H H0 H1 : Hp} {A0 : A0T} {O : List Nat} {σ : L2.St} {s : Ev} {n : Nat}
theorem hideL_len : ∀ (s : Ev) (O : List Nat), (hideL s O).length = s.length
  | s, [] => rfl
  | s, i :: O => by rw [hideL, List.length_set, hideL_len s O]
theorem hideL_get : ∀ {s : Ev} {O : List Nat} {i : Nat} {d : D}, (hideL s O)[i]? = some (some d) → i ∉ O ∧ s[i]? = some (some d)
  | s, [], i, d, h => ⟨by simp, h⟩
  | s, j :: O, i, d, h => by
    rw [hideL] at h
    by_cases z : j = i
    · subst z
      rcases Nat.lt_or_ge j (hideL s O).length with y | y
      · rw [List.getElem?_set_self y] at h; cases h
      · rw [List.getElem?_eq_none (by rw [List.length_set]; exact y)] at h; cases h
    · rw [List.getElem?_set_ne z] at h
      obtain ⟨h1, h2⟩ := hideL_get h
      exact ⟨by simp [h1, Ne.symm z], h2⟩
/-- what slots own is out of sight -/
theorem SR.seal (S : SR K aS O A0 H0 σ H s n) : SR K aS [] ⟨AV aS A0 O σ, none⟩ H σ H (hideL s O) n where
  len := by rw [hideL_len]; exact S.len
  sh := fun i d e _ => by
    obtain ⟨h1, h2⟩ := hideL_get e
    obtain ⟨v, ev, r⟩ := S.sh i d h2 h1
    refine ⟨v, ev, Rep.mono (sub_le fun b z => ?_) _ _ r⟩
    rcases z with z | z | ⟨j, hj, _⟩
    · exact z
    · exact .inr (.inl z)
    · cases hj
  ow := fun i hi => nomatch hi
  ds := fun i j b hi => nomatch hi
  fr := KpS.refl
  st := S.st
  av := fun a h => S.cn.dom a h
  pn := fun hi => nomatch hi
theorem kps_of (k : KpA H H1) : KpS aS H H1 := fun b u e _ => k b u e
theorem StA.kpa (st : StA K aS H n) (k : KpA H H1) (t : TbA H1) : StA K aS H1 n := by
  obtain ⟨a0, cs, i, g, m, d, e, h1, ⟨o, h2⟩, h3, h4, h5, h6, h7, h8, _⟩ := st
  exact ⟨a0, cs, i, g, m, d, k _ (.lst _) e, h1, ⟨o, k _ (.frz o (.lst (cs.map V.int))) h2⟩, h3, h4, h5, h6, h7, h8, t⟩
end
/-- where a lambda is entered -/
abbrev LC := Around × List Env × Shared × Hp × Addr × Addr
section
variable {X : Cx} {E : XK} {O : List Nat} {x : Str} {Ng : List Str} {sg : Scope} {g : Addr} {ok : OKF} {hs : HS} {params : Arguments} {body : Expr} {scope : Scope} {m : EM D} {k : Nat} {p lpos pos : Pos}
/-- the clauses over addresses -/
def hsA (K : PySem.W.Frag) (hs : HS) : List HE := hs.map fun e => (He.ga K e.1, e.2.1, e.2.2)
theorem hw_of {K : PySem.W.Frag} {aS : Addr} {A : AS} {H1 H' : Hp} {n : Nat} {Q : VK} {C : Str} {fs : List (Str × D)} {d : Option Addr} (hA : A aS) (c : Cn K aS H' A n) (r : match d with | none => fs = [] | some a => ∃ ys, H1 a = none ∧ H' a = some (.xd ys) ∧ RepF K aS H' A fs ys) {hv : HV} {y : D}
    (ey : hvD hv fs = some y) (q : ∀ v H2, KpS aS H' H2 → StA K aS H2 n → Rep K aS H2 A y v → Q v H2) :
    ∀ (hs : HS), (∀ e ∈ hs, PySem.W.exmOne K (.ref (He.ga K C)) (.ref (He.ga K e.1)) = some (decide (e.1 = C))) → hpick hs C = some hv → hw K Q (hsA K hs) (.ref (He.ga K C)) d H'
  | [], _, h => by cases h
  | (C1, o, v1) :: hs, hx, h => by
    refine ⟨_, hx _ List.mem_cons_self, fun e => ?_, fun e => ?_⟩
    · have e1 : C1 = C := of_decide_eq_true e
      rw [hpick, if_pos e1] at h
      have ev : v1 = hv := Option.some.inj h
      rw [← ev] at ey
      clear e ev h
      subst e1
      show hvW K (He.ga K C1) (.ref (He.ga K C1)) d H' Q v1
      cases v1 with
      | fld w f =>
        cases d with
        | none =>
          have r : fs = [] := r
          subst r
          cases ey
        | some a =>
          obtain ⟨ys, h1, h2, h3⟩ := r
          rcases repF_look f h3 with z | ⟨d1, u, z1, z2, z3⟩
          · have ey : (fs.lookup f).map _ = some y := ey
            rw [z.1] at ey; cases ey
          · have ey : (fs.lookup f).map _ = some y := ey
            rw [z1] at ey
            cases ey
            refine ⟨rfl, a, ys, u, rfl, h2, z2, fun p hp => q _ _ (KpS.upd hp) (c.st.upd hp) (rep_tup (.inl upd_same) ?_)⟩
            exact RepL.kp (KpS.upd hp) c.st hA (RepL.cons rep_str (RepL.cons z3 RepL.nil))
      | lst w f =>
        cases d with
        | none =>
          have r : fs = [] := r
          subst r
          cases ey
        | some a =>
          obtain ⟨ys, h1, h2, h3⟩ := r
          rcases repF_look f h3 with z | ⟨d1, u, z1, z2, z3⟩
          · simp only [hvD, z.1] at ey
            cases ey
          · simp only [hvD, z1] at ey
            have fin : ∀ (pp : Addr) (xs : List V) (ds : List D), u = .ref pp → (SqL K H' pp xs ∨ SqT K H' pp xs) → RepL K aS H' A ds xs → y = .tup [.str w, .lst ds] → hvW K (He.ga K C1) (.ref (He.ga K C1)) (some a) H' Q (.lst w f) := fun pp xs ds eu hsq rl ey => by
              subst eu ey
              refine ⟨rfl, a, ys, pp, xs, rfl, h2, z2, hsq, fun l hl t ht => q _ _ ((KpS.upd hl).trans (KpS.upd ht)) ((c.st.upd hl).upd ht) (rep_tup (.inl upd_same) ?_)⟩
              have o1 : Own K aS (upd H' l (.lst xs)) (fun b => A b ∨ b = l) l (.lst ds) := own_new hl rl
              exact RepL.kp (KpS.upd ht) (c.st.upd hl) hA (RepL.cons rep_str (RepL.cons (o1.rep (c.new hl)) RepL.nil))
            cases d1 with
            | lst ds =>
              cases ey
              rw [Rep] at z3
              obtain ⟨pp, xs, eu, _, hq, rl⟩ := z3
              exact fin pp xs ds eu (.inl (SqL.of hq)) rl rfl
            | tup ds =>
              cases ey
              rw [Rep] at z3
              obtain ⟨pp, xs, eu, hq, rl⟩ := z3
              exact fin pp xs ds eu (.inr hq.sq) rl rfl
            | _ => cases ey
      | str w =>
        cases ey
        exact q _ _ KpS.refl c.st rep_str
      | bare f =>
        cases d with
        | none =>
          have r : fs = [] := r
          subst r
          cases ey
        | some a =>
          obtain ⟨ys, h1, h2, h3⟩ := r
          rcases repF_look f h3 with z | ⟨d1, u, z1, z2, z3⟩
          · have ey : fs.lookup f = some y := ey
            rw [z.1] at ey; cases ey
          · have ey : fs.lookup f = some y := ey
            rw [z1] at ey
            cases ey
            exact ⟨rfl, a, ys, u, rfl, h2, z2, q _ _ KpS.refl c.st z3⟩
      | nonp w =>
        cases ey
        intro p hp
        exact q _ _ (KpS.upd hp) (c.st.upd hp) (rep_tup (.inl upd_same) (RepL.cons rep_str (RepL.cons rep_non RepL.nil)))
    · have e : C1 ≠ C := of_decide_eq_false e
      rw [hpick, if_neg e] at h
      exact hw_of hA c r ey q hs (fun e he => hx e (List.mem_cons_of_mem _ he)) h
end
end DL
namespace DL
open PySem PySem.Spec PyProof.Rows L2 LamX TR
variable [TabC]
/-- the def x that tries what it got -/
structure GTr (P : Program) (w : World) (K : PySem.W.Frag) (mg : Str → Option Value) (base : Heap) (x : Str) (ok : OKF) (hs : HS) : Prop where
  ex : ∃ (Ng : List Str) (a : Str) (sg : Scope) (g : Addr) (oc : Value) (od : Option Addr) (pg : Arguments) (bg : List Stmt) (dV kV doc pm : Value) (an : Option Addr) (cdv ct : Value) (osl : Array (Option Value)),
    mg x = some (.ref g) ∧ PySem.W.keepIn K (.ref g) = true ∧ K.lookup g = some ⟨oc, od, .func (PySem.W.fnOf x x pg bg sg dV kV doc pm an cdv ct), osl⟩ ∧ PySem.W.codeIn K cdv x = true ∧ L2.Binds K (PySem.W.fnOf x x pg bg sg dV kV doc pm an cdv ct) [a] [] ∧ FnScope Ng [a] sg ∧ Ng[0]? = some a ∧ 2 ≤ Ng.length ∧ Vis sg a ∧
    (a == ("__debug__" : Str)) = false ∧ (a == ("__classdict__" : Str)) = false ∧ ∀ X : Cx, X.prog = P → X.w = w → X.K = K → X.mg = mg → X.base = base → ∀ q, GivesTo X Ng x sg g cdv bg a q (TTried K Ng ok (hsA K hs))
  exm : ∀ e ∈ hs, ∀ e' ∈ hs, PySem.W.exmOne K (.ref (He.ga K e.1)) (.ref (He.ga K e'.1)) = some (decide (e'.1 = e.1))
theorem hpick_mem : ∀ {hs : HS} {C : Str} {v : HV}, hpick hs C = some v → ∃ e ∈ hs, e.1 = C
  | [], _, _, h => by cases h
  | (C1, o, v1) :: hs, C, v, h => by
    rw [hpick] at h
    split at h
    · rename_i e
      exact ⟨_, List.mem_cons_self, e⟩
    · obtain ⟨e, he, z⟩ := hpick_mem h
      exact ⟨e, List.mem_cons_of_mem _ he, z⟩
section
variable {X : Cx} {E : XK} {O : List Nat} {x : Str} {ok : OKF} {hs : HS} {params : Arguments} {body : Expr} {scope : Scope} {m : EM D} {k k' : Nat} {p lpos pos : Pos} {c P : Addr}
theorem ve_tried (G : GTr X.prog X.w X.K X.mg X.base x ok hs) (hg : Gl X x) (TB : TabB X.base X.mg c P) (hcode : X.env.code = .ref c) (hmT : (P, X.env.qual ++ "<lambda>") ∈ TabC.T) (hu : ∀ p ∈ TabC.T, p.1 = P → p.2 = X.env.qual ++ "<lambda>") (hr : Room k' X.A) (hk : k + 2 ≤ k')
    (L0 : LamS X.env.scope scope) (hdef : defaultsOf params X.env = ([], [])) (hbind : ∀ (q : Str) (cl : List (Str × Addr)) (pm cv ctv : Value), bindArgs (PySem.W.kla_fn "<lambda>" q params body scope cl pm cv ctv) ⟨[], []⟩ = pure [])
    (hL : ∀ (A : Around) (outer : List Env) (s : Shared) (H : Hp) (E : XK) (f c' : Addr), Room k (A.deeper (lamEnv X scope s.heap.objs.size f c')) → VE (lamCx X A outer s H E scope f c') (EU H E) [] body m)
    (hdb : (x == ("__debug__" : Str)) = false := by decide) : VE X E O (.Call (.Name x p) [.Lambda params body scope lpos] [] pos) (eTried ok hs O m) := by
  obtain ⟨Ng, a, sg, g, oc, od, pg, bg, dV, kV, doc, pm, an, cdv, ct, osl, h1, h2, h3, h4, h5, h6, h7, h7b, h8, h9, h10, hG⟩ := G.ex
  -- one reading for all places
  let Ok (E : XK) (z : LC) : Prop := Room k (z.1.deeper (lamEnv X scope z.2.2.1.heap.objs.size z.2.2.2.2.1 z.2.2.2.2.2))
  have hc : ∀ (E : XK) (z : LC) (h : Ok E z), VE (lamCx X z.1 z.2.1 z.2.2.1 z.2.2.2.1 E scope z.2.2.2.2.1 z.2.2.2.2.2) (EU z.2.2.2.1 E) [] body m := fun E z h => hL z.1 z.2.1 z.2.2.1 z.2.2.2.1 E _ _ h
  let t (E : XK) : TE := fun σ H Q => ∀ (z : LC) (h : Ok E z), Classical.choose (hc E z h).2 σ H Q
  have hbody : ∀ (A : Around) (outer : List Env) (s : Shared) (H : Hp) (E : XK) (f c' : Addr), Room k (A.deeper (lamEnv X scope s.heap.objs.size f c')) → PE (lamCx X A outer s H E scope f c') body (t E) := fun A outer s H E f c' hr =>
    ⟨fun pins s1 σ H1 Q I q => (Classical.choose_spec (hc E (A, outer, s, H, f, c') hr).2).1.run pins s1 σ H1 Q I (q (A, outer, s, H, f, c') hr)⟩
  refine ⟨mn_tried, _, pe_tried (k := k) hg h1 h2 h3 h4 h5 h6 h7 h8 (hG X rfl rfl rfl rfl rfl _) TB hcode hmT hu (DL.Room.le hr hk) L0 hdef hbind hbody hdb h9 h10, fun aS A0 H0 σ H s n xq Q S L hm => ?_⟩
  obtain ⟨xq0, Q0, hx, hq, hmm⟩ := hm
  have tb0 : TbA H := by
    obtain ⟨_, _, _, _, _, _, _, _, _, _, _, _, _, _, _, z⟩ := S.st
    exact z
  refine ⟨tb0, fun H1 kp tb f => ?_⟩
  have S1 := S.step (kps_of kp) (S.st.kpa kp tb)
  have S2 := S1.seal
  have eA : AV aS (AV aS A0 O σ) [] [] = AV aS A0 O σ := AV.of AV.st
  have eB : AV aS (AV aS A0 O σ) [] σ = AV aS A0 O σ := by
    funext b
    refine propext ⟨fun z => ?_, fun z => .inl z⟩
    rcases z with z | z | ⟨j, hj, _⟩
    · exact z
    · exact .inr (.inl z)
    · cases hj
  let Ech : XK := fun cls d H' => ∃ (C : Str) (fs : List (Str × D)) (n' : Nat), cls = .ref (He.ga X.K C) ∧ KpS aS H1 H' ∧ StA X.K aS H' n' ∧ (match d with | none => fs = [] | some a => ∃ ys, H1 a = none ∧ H' a = some (.xd ys) ∧ RepF X.K aS H' (AV aS A0 O σ) fs ys) ∧ xq0 (C, fs) n'
  have LE : LX X.K Ech aS (AV aS A0 O σ) H1 xq0 := fun C fs n' d H' k1 st1 r1 q1 => ⟨C, fs, n', rfl, k1, st1, by rw [eA] at r1; exact r1, q1⟩
  refine ⟨Ech, fun cls d H' z => ?_, fun z h => ?_⟩
  · obtain ⟨C, fs, n', ec, k1, st1, r1, q1⟩ := z
    subst ec
    obtain ⟨hv, y, ep, ey, qy⟩ := hx _ _ q1
    have c1 : Cn X.K aS H' (AV aS A0 O σ) n' := (S1.step k1 st1).cn
    obtain ⟨e0, he0, hC⟩ := hpick_mem ep
    have hC : e0.1 = C := hC
    refine hw_of AV.st c1 r1 ey (fun v H2 k2 st2 r2 => qy v H2 (((kps_of kp).trans k1).trans k2) st2 r2) hs (fun e he => ?_) ep
    rw [← hC]
    exact G.exm e0 he0 e he
  · refine (Classical.choose_spec (hc Ech z h).2).2 aS ⟨AV aS A0 O σ, none⟩ H1 σ H1 (hideL s O) n xq0 _ S2 LE.eu ((hc Ech z h).1 _ _ _ _ _ (fun d n' q v H' k1 st1 r1 => ?_) hmm)
    have r1 : Rep X.K aS H' (AV aS A0 O σ) d v := by rw [← eB]; exact r1
    have q2 := hq d n' q
    have hl : 1 < (L2.start Ng [V.ref f]).length := by
      unfold L2.start
      rw [List.length_append, List.length_map, List.length_replicate]
      show 1 < 1 + (Ng.length - 1)
      omega
    cases ok with
    | drop => exact ⟨.non, List.getElem?_set_self hl, q2 .non H' ((kps_of kp).trans k1) st1 rep_non⟩
    | told w =>
      refine ⟨by rw [sizeLine_eq]; decide, fun pp hp => ⟨.ref pp, List.getElem?_set_self (by rw [List.length_set]; exact hl), ?_⟩⟩
      refine q2 (.ref pp) _ (((kps_of kp).trans k1).trans (KpS.upd hp)) (st1.upd hp) (rep_tup (.inl upd_same) ?_)
      exact RepL.kp (KpS.upd hp) st1 AV.st (RepL.cons rep_str (RepL.cons r1 RepL.nil))
end
end DL
namespace HX
open PySem L2 He
/-! what is asked of an error's class -/
theorem oexB_ok {K : PySem.W.Frag} {C : Addr} (h : oexB K C = true) : OexC K C := by
  obtain ⟨h1, h⟩ := ba h
  obtain ⟨h2, h⟩ := ba h
  obtain ⟨h3, h⟩ := ba h
  obtain ⟨h4, h5⟩ := ba h
  refine ⟨?_, of_decide_eq_true h2, of_decide_eq_true h3, of_decide_eq_true h4, h5⟩
  unfold oexK at h1
  split at h1
  · rename_i dd cd sl lk
    split at h1
    · rename_i C' bm k0 k1 k2 k3 n k5 em es
      obtain ⟨a1, a2⟩ := ba h1
      obtain ⟨b1, b2⟩ := ba a1
      obtain ⟨c1, c2⟩ := ba a2
      obtain ⟨d1, d2⟩ := ba c1
      have e1 := of_decide_eq_true b1
      have e2 := of_decide_eq_true b2
      obtain ⟨nm, bs, mro, ns, qn, hd, sn, sub, ab, col, del⟩ := cd
      obtain ⟨sl⟩ := sl
      have em : mro = .ref C' :: bm := em
      have es : sl = [k0, k1, k2, k3, some (.builtin n), k5] := es
      have d1 : (!del) = true := d1
      have d2 : hd = true := d2
      have d1 : del = false := by cases del <;> first | rfl | cases d1
      clear a1 a2 b1 b2 c1 h1 h2 h3 h4 h5 h
      subst e1 e2
      rw [em, es, d1, d2] at lk
      exact ⟨nm, qn, ns, bs, bm, sn, sub, ab, col, dd, k0, k1, k2, k3, k5, lk, c2⟩
    · cases h1
  · cases h1
/-! its __init__ -/
theorem err_ok {P : Program} {K : PySem.W.Frag} {d : ErrD} (e : fnE K (d.f K) = d.val) (c : d.ok P K = true) (ht : (P.main.scope.names.lookup ("super" : Str)).isSome = false) : PySem.W.nsIn K mainGlobals d.x = some (some (.ref (ga K d.x))) ∧ OexC K (ga K d.x) ∧ PySem.W.findIn K (.ref (ga K d.x)) "__init__" = some (some (.ref (d.f K))) ∧ PySem.W.typeIn K (.ref (d.f K)) = some (.type "function") ∧
    (∀ g ∈ d.fl, PySem.W.findIn K (.ref (ga K d.x)) g = some none) ∧ ∃ (F : NdefX.NF) (oc : Value) (od : Option Addr) (doc pm ctv : Value) (osl : Array (Option Value)), ES.SupF P K (ga K d.x) (d.f K) F ∧ K.lookup (d.f K) = some ⟨oc, od, .func (F.fd doc pm ctv), osl⟩ ∧ F.name = "__init__" ∧ F.qual = d.qual ∧ F.params = d.params ∧ F.body = d.body ∧ F.scope = d.scope := by
  obtain ⟨c1, c⟩ := ba c
  obtain ⟨a1, a2⟩ := ba c1
  obtain ⟨c2, c⟩ := ba c
  obtain ⟨b1, b2⟩ := ba c2
  obtain ⟨c3, c⟩ := ba c
  obtain ⟨g1, g2⟩ := ba c3
  obtain ⟨c4, c⟩ := ba c
  obtain ⟨h1, h2⟩ := ba c4
  obtain ⟨h3, h4⟩ := ba c
  refine ⟨eqO_ok a1, oexB_ok a2, eqO_ok b1, of_decide_eq_true b2, fun g hg => eqO_ok (List.all_eq_true.mp h4 g hg), ?_⟩
  unfold codB at g1
  unfold fnE at e
  cases lk : K.lookup (d.f K) with
  | none => rw [lk] at g1; cases g1
  | some o =>
    obtain ⟨oc, od, dt, osl⟩ := o
    rw [lk] at g1 e
    cases dt with
    | func fd =>
      obtain ⟨n1, n2, n3, n4, n5, n6, n7, n8, n9, n10, n11, n12, n13, n14, n15⟩ := fd
      have e2 : (some (n1, n2, n3, n4, n5, n6, n7.map (·.1), n15, plainD ⟨n1, n2, n3, n4, n5, n6, n7, n8, n9, n10, n11, n12, n13, n14, n15⟩) : FnE) = some (("__init__" : Str), d.qual, d.params, FuncBody.stmts d.body, d.scope, mainGlobals, [("__class__" : Str)], builtinsNs, true) := e
      simp only [Option.some.injEq, Prod.mk.injEq] at e2
      obtain ⟨i1, i2, i3, i4, i5, i6, i7, i8, i9⟩ := e2
      obtain ⟨j1, j2⟩ := ba i9
      obtain ⟨j2, j3⟩ := ba j2
      have q1 : n8 = .none := of_decide_eq_true j1
      have q2 : n9 = .none := of_decide_eq_true j2
      have q3 : n12 = none := Option.isNone_iff_eq_none.mp j3
      clear j1 j2 j3 i9 e
      subst i1 i2 i3 i4 i5 i6 i8 q1 q2 q3
      obtain ⟨k1, k2⟩ := ba g1
      dsimp only at k1 k2
      cases n13 with
      | ref cd =>
        obtain ⟨l1, l2⟩ := ba k1
        have fil : ∃ (ccl : Value) (cdd : Option Addr) (vs : Array Value) (ccs : Array (Option Value)) (fl : Str) (tf : Tok), K.lookup cd = some ⟨ccl, cdd, .fields vs, ccs⟩ ∧ vs[2]? = some (.str fl tf) ∧ ((P.main.file : Str) == fl) = true := by
          split at l2
          · rename_i c1 c2 vs c3 lc
            split at l2
            · rename_i fl tf ev
              exact ⟨c1, c2, vs, c3, fl, tf, lc, ev, l2⟩
            · cases l2
          · cases l2
        have cel : ∃ (cc : Addr) (o : Value) (dd : Option Addr) (sl : Array (Option Value)), n7 = [(("__class__" : Str), cc)] ∧ K.lookup cc = some ⟨o, dd, .cell (some (.ref (ga K d.x))), sl⟩ := by
          split at k2
          · rename_i z cc
            split at k2
            · rename_i c1 c2 C' c3 lc
              have eC := of_decide_eq_true k2
              rw [eC] at lc
              have ez : z = ("__class__" : Str) := by simpa using i7
              exact ⟨cc, c1, c2, c3, by rw [ez], lc⟩
            · cases k2
          · cases k2
        refine ⟨⟨"__init__", d.qual, d.params, d.body, d.scope, n7, cd⟩, oc, od, n10, n11, n14, osl, ⟨⟨oc, od, n10, n11, n14, osl, lk⟩, l1, fil, cel, of_decide_eq_true g2, of_decide_eq_true h1, of_decide_eq_true h2, eqO_ok h3, ht⟩, rfl, rfl, rfl, rfl, rfl, rfl⟩
      | _ => cases k1
    | _ => cases g1
/-! ### the Hook -/
structure SaysE (P : Program) (fa : List Fa) (fn : List DefD) (er : List ErrD) (tf : List Defn) (ex : PySem.W.Frag → Bool) (w : World) (h : Heap) (K : PySem.W.Frag) : Prop where
  d : SaysD fa fn K
  more : ex K = true
  errs : er.map (fun e => fnE K (e.f K)) = er.map ErrD.val
  eok : ∀ e ∈ er, e.ok P K = true
  hd : ∀ p ∈ tf, PySem.W.codeHdIn K (cT K p).1 (cT K p).2 = true
  out : ∀ p ∈ tf, K.lookup (cT K p).2 = none
  empty : ∀ p ∈ tf, h.get? (cT K p).2 = some { cls := .none, data := .fields #[] }
theorem saysE_of {P : Program} {n : Nat} {fa : List Fa} {fn : List DefD} {er : List ErrD} {tf : List Defn} {ex : PySem.W.Frag → Bool} {w : World} {h : Heap} (e : obsE P n fa fn er tf ex h.get? = valE fn er) : SaysE P fa fn er tf ex w h (frT h.get? (asE h.get? n)) := by
  have e1 : obsD fa fn (frT h.get? (asE h.get? n)) = valD fn := congrArg (fun z : AlE => z.1) e
  have e2 := congrArg (fun z : AlE => z.2.1) e
  have e3 := congrArg (fun z : AlE => z.2.2) e
  obtain ⟨h1, h2⟩ := ba e2
  obtain ⟨h0, h1⟩ := ba h1
  have look : ∀ p ∈ tf, PySem.W.codeHdIn (frT h.get? (asE h.get? n)) (cT (frT h.get? (asE h.get? n)) p).1 (cT (frT h.get? (asE h.get? n)) p).2 = true ∧ ∃ o, h.get? (cT (frT h.get? (asE h.get? n)) p).2 = some o ∧ emptyTab o = true := fun p hp => by
    obtain ⟨h3, h4⟩ := ba (List.all_eq_true.mp h2 p hp)
    refine ⟨h3, ?_⟩
    revert h4
    cases h.get? (cT (frT h.get? (asE h.get? n)) p).2 with
    | none => intro z; cases z
    | some o => intro z; exact ⟨o, rfl, z⟩
  exact { d := e1, more := h0, errs := e3, eok := fun e he => List.all_eq_true.mp h1 e he, hd := fun p hp => (look p hp).1,
          out := fun p hp => let ⟨_, _, q, z⟩ := look p hp; frT_none q z,
          empty := fun p hp => let ⟨_, _, q, z⟩ := look p hp; by rw [q, emptyTab_eq z] }
theorem SaysE.err {P : Program} {fa : List Fa} {fn : List DefD} {er : List ErrD} {tf : List Defn} {ex : PySem.W.Frag → Bool} {w : World} {h : Heap} {K : PySem.W.Frag} (c : SaysE P fa fn er tf ex w h K) (i : Nat) {e : ErrD} (he : er[i]? = some e) : fnE K (e.f K) = e.val ∧ e.ok P K = true := by
  have z : (er.map fun e => fnE K (e.f K))[i]? = (er.map ErrD.val)[i]? := by rw [c.errs]
  rw [List.getElem?_map, List.getElem?_map, he] at z
  exact ⟨Option.some.inj z, c.eok e (List.mem_of_getElem? he)⟩
end HX
namespace HX
open PySem PySem.Spec PyProof.Rows L2 He DL
variable [TabC]
section
variable {P : Program} {w : World} {K : PySem.W.Frag} {mg : Str → Option Value} {base h : Heap} {d : ErrD} {slf0 fld y txt : Str} {jc : Nat} {pc p0 p1 p2 p3 p4 q1 q2 q3 q4 : Pos} {N ps : List Str}
/-- an error of one field -/
theorem gex1 (X : K.In h) (G : h.Ns mainGlobals mg) (z : fnE K (d.f K) = d.val ∧ d.ok P K = true) (ht : (P.main.scope.names.lookup ("super" : Str)).isSome = false) (fs : mg "super" = none)
    (hb : d.body = .Expr (ES.supCall (.Constant (.str txt) jc pc) p0 p1 p2 p3) p4 :: [ES.stF slf0 fld y q1 q2 q3 q4]) (hfl : d.fl = [fld]) (hN : N = [slf0, y, "__class__"]) (hps : ps = [slf0, y])
    (hsc : NdefX.nscB N ps ["__class__"] d.scope = true) (hsup : d.scope.names.lookup ("super" : Str) = some .globalImplicit) (hslf : d.scope.names.lookup slf0 = some .local) (hy : d.scope.names.lookup y = some .local)
    (hpar : ∃ ar : Arg, (d.params.posonlyargs ++ d.params.args).head? = some ar ∧ ar.arg = slf0) (hd0 : (slf0 == ("__debug__" : Str)) = false) (hd1 : (y == ("__debug__" : Str)) = false) (hc0 : (slf0 == ("__classdict__" : Str)) = false) (hc1 : (y == ("__classdict__" : Str)) = false)
    (hbind : ∀ (cl : List (Str × Addr)) (c : Addr) (doc pm ctv u v : Value), bindArgs (PySem.W.fnX "__init__" d.qual d.params d.body d.scope cl .none .none doc pm none (.ref c) ctv) { pos := [u, v] } = pure [(slf0, u), (y, v)])
    (hev : ∀ (F : NdefX.NF) (f L : Addr), F.scope = d.scope → F.qual = d.qual → ∃ pl : Sem Bool, eval (ES.supCall (.Constant (.str txt) jc pc) p0 p1 p2 p3) (NdefX.envF F f L) = (do
      let ov ← attributeBase (.Call (.Name "super" p0) [] [] p1) "__init__" (NdefX.envF F f L) (eval (.Call (.Name "super" p0) [] [] p1) (NdefX.envF F f L))
      standAt p2.atName
      let (g, first) ← holding [ov] (getMethod ov "__init__" pl)
      callWith p3 g first (backTo p3 (starEach [.Constant (.str txt) jc pc] (NdefX.envF F f L))) []))
    (hsw : ∀ (F : NdefX.NF) (f L : Addr), F.scope = d.scope → swapsWith (ES.supCall (.Constant (.str txt) jc pc) p0 p1 p2 p3) none p4.line (NdefX.envF F f L) = pure false)
    (hsw2 : ∀ (F : NdefX.NF) (f L : Addr), F.scope = d.scope → swapsWith (.Name y q3) (some (.Attribute (.Name slf0 q1) fld q2)) q4.line (NdefX.envF F f L) = pure false) : GEx P w K mg base d.x 1 [fld] := by
  obtain ⟨a1, T, a3, a4, a5, F, oc, od, doc, pm, ctv, osl, SF, lk, n1, n2, n3, n4, n5⟩ := err_ok z.1 z.2 ht
  have SS : ES.SupS slf0 N ps F := ⟨by rw [n5]; exact NdefX.nscope_by hsc, by rw [n5]; exact hsup, by rw [n5]; exact (NdefX.nscope_by hsc).frk _ (List.mem_singleton.mpr rfl), by rw [n5]; exact hslf, by rw [n3]; exact hpar, by rw [hN]; rfl⟩
  have hf : PySem.W.findIn K (.ref (ga K d.x)) fld = some none := a5 fld (by rw [hfl]; exact List.mem_singleton.mpr rfl)
  refine ⟨d.f K, F.fd doc pm ctv, ps, ?_, T, a3, a4, ?_, ?_⟩
  · exact He.glo_ok X G (show eqO _ _ = true from decide_eq_true a1)
  · refine .all fun us hl => ?_
    rw [hps] at hl ⊢
    match us, hl with
    | [u, v], _ =>
      have e := hbind F.cl F.c doc pm ctv u v
      rw [← n2, ← n3, ← n4, ← n5, ← n1] at e
      exact e
  · exact ES.init_of (n := 1) T SF SS fs lk (by rw [n4]; exact hb) (by rw [hps]; rfl) (fun L => hev F _ L n5 n2) (fun L => hsw F _ L n5) fun A outer s H E => ES.rest1 T hf SS (by rw [hN]; rfl) (by rw [n5]; exact hy) hd0 hd1 hc0 hc1 (fun L => hsw2 F _ L n5) A outer s H E
end
end HX
namespace DL
open PySem PySem.Spec PyProof.Rows L2
variable [TabC]
/-! ### readings that are plain functions -/
inductive Res (α : Type) where
  | ok (a : α) | ex (x : XD) | bad
def Res.bind {α β : Type} : Res α → (α → Res β) → Res β
  | .ok a, k => k a
  | .ex x, _ => .ex x
  | .bad, _ => .bad
/-- no error may leave -/
def Res.calm {α : Type} : Res α → Res α
  | .ok a => .ok a
  | _ => .bad
def ofO {α : Type} : Option α → Res α
  | some a => .ok a
  | none => .bad
def ofB : Option D → Res Bool
  | some (.bl b) => .ok b
  | _ => .bad
abbrev FM (α : Type) := Ev → Res α
def Res.wp {α : Type} (r : Res α) (xq : XQ) (n : Nat) (Q : α → Nat → Prop) : Prop := match r with
  | .ok a => Q a n
  | .ex x => xq x n
  | .bad => False
def up {α : Type} (f : FM α) : EM α := fun xq s n Q => (f s).wp xq n Q
theorem wp_bind {α β : Type} {r : Res α} {k : α → Res β} {xq : XQ} {n : Nat} {Q : β → Nat → Prop} (h : (r.bind k).wp xq n Q) : r.wp xq n fun a n' => (k a).wp xq n' Q := by
  cases r <;> exact h
theorem wp_ofO {α : Type} {o : Option α} {xq : XQ} {n : Nat} {Q : α → Nat → Prop} (h : (ofO o).wp xq n Q) : ∃ a, o = some a ∧ Q a n := by
  cases o with
  | none => exact h.elim
  | some a => exact ⟨a, rfl, h⟩
theorem wp_ofB {o : Option D} {xq : XQ} {n : Nat} {Q : Bool → Nat → Prop} (h : (ofB o).wp xq n Q) : ∃ k, o = some (.bl k) ∧ Q k n := by
  unfold ofB at h
  split at h
  · exact ⟨_, rfl, h⟩
  · exact h.elim
theorem wp_mono {α : Type} {r : Res α} {xq : XQ} {n : Nat} {Q Q' : α → Nat → Prop} (hq : ∀ a, Q a n → Q' a n) (h : r.wp xq n Q) : r.wp xq n Q' := by
  cases r with
  | ok a => exact hq a h
  | _ => exact h
theorem wp_if {α : Type} {c : Bool} {a b : Res α} {xq : XQ} {n : Nat} {Q : α → Nat → Prop} (h : (if c = true then a else b).wp xq n Q) : if c = true then a.wp xq n Q else b.wp xq n Q := by
  cases c <;> exact h
theorem wp_dec {α : Type} {p : Prop} [Decidable p] {a : Res α} {xq : XQ} {n : Nat} {Q : α → Nat → Prop} (h : (if p then a else .bad).wp xq n Q) : p ∧ a.wp xq n Q := by
  by_cases z : p
  · rw [if_pos z] at h
    exact ⟨z, h⟩
  · rw [if_neg z] at h
    exact h.elim
theorem mn_up {α : Type} {f : FM α} : Mn (up f) := fun xq s n Q Q' hq h => wp_mono (fun a => hq a n) h
section
variable {X : Cx} {E : XK} {O : List Nat} {R : RK}
theorem lo {e : Expr} {m : EM D} {f : FM D} (h : VX R X E O e m) (le : ∀ xq s n Q, up f xq s n Q → m xq s n Q) : VX R X E O e (up f) := by
  obtain ⟨mn, t, p, q⟩ := h
  exact ⟨mn_up, t, p, fun aS A0 H0 σ H s n xq Q S L hm => q aS A0 H0 σ H s n xq Q S L (le _ _ _ _ hm)⟩
theorem loF {e : Expr} {m : EM D} {f : FM D} (h : VF X E O e m) (le : ∀ xq s n Q, up f xq s n Q → m xq s n Q) : VF X E O e (up f) := by
  obtain ⟨mn, t, p, q⟩ := h
  exact ⟨mn_up, t, p, fun aS A0 H0 σ H s n xq Q S L hm => q aS A0 H0 σ H s n xq Q S L (le _ _ _ _ hm)⟩
theorem loT {e : Expr} {m : EM Bool} {f : FM Bool} (h : VT X E O e m) (le : ∀ xq s n Q, up f xq s n Q → m xq s n Q) : VT X E O e (up f) := by
  obtain ⟨mn, t, p, q⟩ := h
  exact ⟨mn_up, t, p, fun aS A0 H0 σ H s n xq Q S L hm => q aS A0 H0 σ H s n xq Q S L (le _ _ _ _ hm)⟩
theorem loTs {es : List Expr} {m : EM Bool} {f : FM Bool} (h : VTs X E O es m) (le : ∀ xq s n Q, up f xq s n Q → m xq s n Q) : VTs X E O es (up f) := by
  obtain ⟨mn, t, p, q⟩ := h
  exact ⟨mn_up, t, p, fun aS A0 H0 σ H s n xq Q S L hm => q aS A0 H0 σ H s n xq Q S L (le _ _ _ _ hm)⟩
theorem loA {es : List Expr} {m : EM (List D)} {f : FM (List D)} (h : VA R X E O es m) (le : ∀ xq s n Q, up f xq s n Q → m xq s n Q) : VA R X E O es (up f) := by
  obtain ⟨mn, t, p, q⟩ := h
  exact ⟨mn_up, t, p, fun aS A0 H0 σ H s n xq Q S L hm => q aS A0 H0 σ H s n xq Q S L (le _ _ _ _ hm)⟩
end
section
variable {xq : XQ} {s : Ev} {n : Nat} {a b c : FM D} {t u : FM Bool} {l : FM (List D)}
def fVar (i : Nat) : FM D := fun s => match s[i]? with
  | some (some d) => .ok d
  | _ => .bad
theorem le_var (i : Nat) : ∀ xq s n Q, up (fVar i) xq s n Q → eVar i xq s n Q := fun xq s n Q h => by
  unfold up fVar at h
  split at h
  · rename_i d e
    exact ⟨d, e, h⟩
  · exact h.elim
def fC (d : D) : FM D := fun _ => .ok d
theorem le_c {d : D} : ∀ xq s n Q, up (fC d) xq s n Q → eC d xq s n Q := fun _ _ _ _ h => h
def fNil : FM (List D) := fun _ => .ok []
theorem le_nil : ∀ xq s n Q, up fNil xq s n Q → eNil xq s n Q := fun _ _ _ _ h => h
def fCons (a : FM D) (l : FM (List D)) : FM (List D) := fun s => (a s).bind fun d => (l s).bind fun ds => .ok (d :: ds)
theorem le_cons : ∀ xq s n Q, up (fCons a l) xq s n Q → eCons (up a) (up l) xq s n Q := fun xq s n Q h => by
  unfold eCons up
  exact wp_mono (fun d h => wp_bind h) (wp_bind h)
def fTup (l : FM (List D)) : FM D := fun s => (l s).bind fun ds => if ds.length ≤ 1000 then .ok (.tup ds) else .bad
theorem le_tup : ∀ xq s n Q, up (fTup l) xq s n Q → eTup (up l) xq s n Q := fun xq s n Q h => by
  unfold eTup up
  exact wp_mono (fun d h => wp_dec h) (wp_bind h)
def fLst (l : FM (List D)) : FM D := fun s => (l s).bind fun ds => if ds.length ≤ 1000 then .ok (.lst ds) else .bad
theorem le_lst : ∀ xq s n Q, up (fLst l) xq s n Q → eLst (up l) xq s n Q := fun xq s n Q h => by
  unfold eLst up
  exact wp_mono (fun d h => wp_dec h) (wp_bind h)
def fBin (f : D → D → Option D) (a b : FM D) : FM D := fun s => (a s).bind fun x => (b s).bind fun y => ofO (f x y)
theorem le_bin {f : D → D → Option D} : ∀ xq s n Q, up (fBin f a b) xq s n Q → eBin f (up a) (up b) xq s n Q := fun xq s n Q h => by
  unfold eBin up
  exact wp_mono (fun d h => wp_mono (fun _ h => wp_ofO h) (wp_bind h)) (wp_bind h)
def fBinT (f : D → D → Option D) (a b : FM D) : FM Bool := fun s => (a s).bind fun x => (b s).bind fun y => ofB (f x y)
theorem le_binT {f : D → D → Option D} : ∀ xq s n Q, up (fBinT f a b) xq s n Q → eBinT f (up a) (up b) xq s n Q := fun xq s n Q h => by
  unfold eBinT up
  exact wp_mono (fun d h => wp_mono (fun _ h => wp_ofB h) (wp_bind h)) (wp_bind h)
def fBlt (f : List D → Option D) (l : FM (List D)) : FM D := fun s => (l s).bind fun ds => ofO (f ds)
theorem le_blt {f : List D → Option D} : ∀ xq s n Q, up (fBlt f l) xq s n Q → eBlt f (up l) xq s n Q := fun xq s n Q h => by
  unfold eBlt up
  exact wp_mono (fun d h => wp_ofO h) (wp_bind h)
/-- a truth -/
def asB : D → Res Bool
  | .bl b => .ok b
  | _ => .bad
theorem wp_asB {d : D} {xq : XQ} {n : Nat} {Q : Bool → Nat → Prop} (h : (asB d).wp xq n Q) : ∃ c, d = .bl c ∧ Q c n := by
  unfold asB at h
  split at h
  · exact ⟨_, rfl, h⟩
  · exact h.elim
def fAnd (a b : FM D) : FM D := fun s => (a s).bind fun x => (asB x).bind fun c => if c = true then b s else .ok (.bl false)
theorem le_and : ∀ xq s n Q, up (fAnd a b) xq s n Q → eAnd (up a) (up b) xq s n Q := fun xq s n Q h => by
  unfold eAnd up
  exact wp_mono (fun d h => by
    obtain ⟨c, e, q⟩ := wp_asB (wp_bind h)
    exact ⟨c, e, wp_if q⟩) (wp_bind h)
def fOr (a b : FM D) : FM D := fun s => (a s).bind fun x => (asB x).bind fun c => if c = true then .ok (.bl true) else b s
theorem le_or : ∀ xq s n Q, up (fOr a b) xq s n Q → eOr (up a) (up b) xq s n Q := fun xq s n Q h => by
  unfold eOr up
  exact wp_mono (fun d h => by
    obtain ⟨c, e, q⟩ := wp_asB (wp_bind h)
    exact ⟨c, e, wp_if q⟩) (wp_bind h)
def fIf (t : FM Bool) (a b : FM D) : FM D := fun s => (t s).bind fun c => if c = true then a s else b s
def fVal (a : FM D) : FM Bool := fun s => (a s).bind asB
theorem le_val : ∀ xq s n Q, up (fVal a) xq s n Q → tVal (up a) xq s n Q := fun xq s n Q h => by
  unfold tVal up
  exact wp_mono (fun d h => wp_asB h) (wp_bind h)
def fAndT (t u : FM Bool) : FM Bool := fun s => (t s).bind fun c => if c = true then u s else .ok false
theorem le_andT : ∀ xq s n Q, up (fAndT t u) xq s n Q → tAndD (up t) (up u) xq s n Q := fun xq s n Q h => by
  unfold tAndD up
  exact wp_mono (fun d h => wp_if h) (wp_bind h)
def fOrT (t u : FM Bool) : FM Bool := fun s => (t s).bind fun c => if c = true then .ok true else u s
theorem le_orT : ∀ xq s n Q, up (fOrT t u) xq s n Q → tOrD (up t) (up u) xq s n Q := fun xq s n Q h => by
  unfold tOrD up
  exact wp_mono (fun d h => wp_if h) (wp_bind h)
def fNotT (t : FM Bool) : FM Bool := fun s => (t s).bind fun c => .ok (!c)
theorem le_notT : ∀ xq s n Q, up (fNotT t) xq s n Q → tNotD (up t) xq s n Q := fun xq s n Q h => by
  unfold tNotD up
  exact wp_bind h
def fYes : FM Bool := fun _ => .ok true
theorem le_yes : ∀ xq s n Q, up fYes xq s n Q → tYesD xq s n Q := fun _ _ _ _ h => h
def fNeg (a : FM D) : FM D := fun s => (a s).bind fun x => match x with
  | .int i => .ok (.int (-i))
  | _ => .bad
theorem le_neg : ∀ xq s n Q, up (fNeg a) xq s n Q → eNeg (up a) xq s n Q := fun xq s n Q h => by
  unfold eNeg up
  exact wp_mono (fun d h => by
    cases d <;> first | exact h.elim | exact ⟨_, rfl, h⟩) (wp_bind h)
def fChainT (f g : D → D → Option D) (a b c : FM D) : FM Bool := fun s => (a s).bind fun x => (b s).bind fun y => (ofB (f x y)).bind fun k => if k = true then (c s).bind fun z => ofB (g y z) else .ok false
theorem le_chainT {f g : D → D → Option D} : ∀ xq s n Q, up (fChainT f g a b c) xq s n Q → eChainT f g (up a) (up b) (up c) xq s n Q := fun xq s n Q h => by
  unfold eChainT up
  exact wp_mono (fun x h => wp_mono (fun y h => by
    obtain ⟨k, e, q⟩ := wp_ofB (wp_bind h)
    refine ⟨k, e, ?_⟩
    cases k with
    | false => exact q
    | true =>
        rw [if_pos rfl] at q ⊢
        exact wp_mono (fun _ h => wp_ofB h) (wp_bind q)) (wp_bind h)) (wp_bind h)
def fNone : FM (Option Int) := fun _ => .ok none
def fSome (a : FM D) : FM (Option Int) := fun s => (a s).bind fun x => match x with
  | .int i => .ok (some i)
  | _ => .bad
theorem wp_some {Q : Option Int → Nat → Prop} (h : up (fSome a) xq s n Q) : oSome (up a) xq s n Q := by
  unfold oSome up
  exact wp_mono (fun d h => by
    cases d <;> first | exact h.elim | exact ⟨_, rfl, h⟩) (wp_bind h)
def fSl (a : FM D) (lo hi : FM (Option Int)) : FM D := fun s => (a s).bind fun d => (lo s).bind fun i => (hi s).bind fun j => ofO (dSl d i j)
def fFld (C g : Str) (a : FM D) : FM D := fun s => (a s).bind fun d => match d with
  | .obj C' fs => if C' = C then ofO (fs.lookup g) else .bad
  | _ => .bad
theorem le_fld {C g : Str} : ∀ xq s n Q, up (fFld C g a) xq s n Q → eFld C g (up a) xq s n Q := fun xq s n Q h => by
  unfold eFld up
  exact wp_mono (fun d h => by
    cases d with
    | obj C' fs =>
      obtain ⟨e, h⟩ := wp_dec h
      obtain ⟨v, e2, q⟩ := wp_ofO h
      exact ⟨fs, v, by rw [e], e2, q⟩
    | _ => exact h.elim) (wp_bind h)
def fDget (o k x : FM D) : FM D := fun s => (o s).bind fun d => match d with
  | .dic kvs => (k s).bind fun kd => (x s).bind fun xd => (ofO (keyD kd)).bind fun kk => .ok ((lookK kvs kk).getD xd)
  | _ => .bad
theorem le_dget : ∀ xq s n Q, up (fDget a b c) xq s n Q → eDget (up a) (up b) (up c) xq s n Q := fun xq s n Q h => by
  unfold eDget up
  exact wp_mono (fun d h => by
    cases d with
    | dic kvs => exact ⟨kvs, rfl, wp_mono (fun kd h => wp_mono (fun xd h => wp_ofO (wp_bind h)) (wp_bind h)) (wp_bind h)⟩
    | _ => exact h.elim) (wp_bind h)
end
end DL
namespace DL
open PySem PySem.Spec PyProof.Rows L2
variable [TabC]
/-! ### slices, calls -/
section
variable {X : Cx} {E : XK} {O : List Nat} {a b c o : FM D} {l : FM (List D)}
theorem loO {e : Option Expr} {m : EM (Option Int)} {f : FM (Option Int)} (h : VO X E O e m) (le : ∀ xq s n Q, up f xq s n Q → m xq s n Q) : VO X E O e (up f) := by
  obtain ⟨mn, t, p, q⟩ := h
  exact ⟨mn_up, t, p, fun aS A0 H0 σ H s n xq Q S L hm => q aS A0 H0 σ H s n xq Q S L (le _ _ _ _ hm)⟩
theorem le_none : ∀ xq s n Q, up fNone xq s n Q → oNone xq s n Q := fun _ _ _ _ h => h
theorem le_some : ∀ xq s n Q, up (fSome a) xq s n Q → oSome (up a) xq s n Q := fun _ _ _ _ h => wp_some h
theorem le_sl {i j : FM (Option Int)} : ∀ xq s n Q, up (fSl a i j) xq s n Q → eSl (up a) (up i) (up j) xq s n Q := fun xq s n Q h => by
  unfold eSl up
  exact wp_mono (fun d h => wp_mono (fun i h => wp_mono (fun j h => wp_ofO h) (wp_bind h)) (wp_bind h)) (wp_bind h)
abbrev FFn := List D → Res D
def FSp.of (f : FFn) : FSp := ⟨fun ds n Q xq => (f ds).wp xq n Q, fun _ _ _ _ _ hq h => wp_mono (fun a => hq a _) h⟩
def fCall (len : Nat) (f : FFn) (dds : List D) (l : FM (List D)) : FM D := fun s => (l s).bind fun ds => if (ds ++ dds).length = len then f (ds ++ dds) else .bad
theorem le_call {len : Nat} {f : FFn} {dds : List D} : ∀ xq s n Q, up (fCall len f dds l) xq s n Q → eCall len (FSp.of f) dds (up l) xq s n Q := fun xq s n Q h => by
  unfold eCall up
  exact wp_mono (fun d h => wp_dec h) (wp_bind h)
def fMeth (C mn : Str) (len : Nat) (f : FFn) (dds : List D) (o : FM D) (l : FM (List D)) : FM D := fun s => (o s).bind fun d => match d with
  | .obj C' fs => if C' = C ∧ fs.lookup mn = none then (l s).bind fun ds => if (d :: (ds ++ dds)).length = len then f (d :: (ds ++ dds)) else .bad else .bad
  | _ => .bad
theorem le_meth {C mn : Str} {len : Nat} {f : FFn} {dds : List D} : ∀ xq s n Q, up (fMeth C mn len f dds o l) xq s n Q → eMeth C mn len (FSp.of f) dds (up o) (up l) xq s n Q := fun xq s n Q h => by
  unfold eMeth up
  refine wp_mono (fun d h => ?_) (wp_bind h)
  cases d with
  | obj C' fs =>
    obtain ⟨⟨e1, e2⟩, h⟩ := wp_dec h
    exact ⟨fs, by rw [e1], e2, wp_mono (fun ds h => wp_dec h) (wp_bind h)⟩
  | _ => exact h.elim
end
/-! ### targets, what is walked -/
abbrev FG := D → Ev → Option Ev
abbrev FGs := List D → Ev → Option Ev
def upG (g : FG) : DG := fun d s Q => ∃ s', g d s = some s' ∧ Q s'
def upGs (g : FGs) : DGs := fun d s Q => ∃ s', g d s = some s' ∧ Q s'
def fgNm (i : Nat) : FG := fun d s => some (s.set i (some d))
def fgTp (g : FGs) : FG := fun d s => match d with
  | .tup ds => g ds s
  | _ => none
def fgsNil : FGs := fun ds s => match ds with
  | [] => some s
  | _ => none
def fgsCons (g : FG) (r : FGs) : FGs := fun ds s => match ds with
  | d :: dr => (g d s).bind (r dr)
  | [] => none
theorem lg_nm {i : Nat} : ∀ d s Q, upG (fgNm i) d s Q → gNm i d s Q := fun d s Q ⟨s', e, q⟩ => by cases e; exact q
theorem lg_tp {g : FGs} {g' : DGs} (h : ∀ d s Q, upGs g d s Q → g' d s Q) : ∀ d s Q, upG (fgTp g) d s Q → gTp g' d s Q := fun d s Q ⟨s', e, q⟩ => by
  cases d with
  | tup ds => exact ⟨ds, rfl, h _ _ _ ⟨s', e, q⟩⟩
  | _ => cases e
theorem lgs_nil : ∀ d s Q, upGs fgsNil d s Q → gsNil d s Q := fun d s Q ⟨s', e, q⟩ => by
  cases d with
  | nil => cases e; exact ⟨rfl, q⟩
  | cons d ds => cases e
theorem lgs_cons {g : FG} {g' : DG} {r : FGs} {r' : DGs} (h : ∀ d s Q, upG g d s Q → g' d s Q) (h2 : ∀ d s Q, upGs r d s Q → r' d s Q) : ∀ d s Q, upGs (fgsCons g r) d s Q → gsCons g' r' d s Q := fun d s Q ⟨s', e, q⟩ => by
  cases d with
  | nil => cases e
  | cons d ds =>
    obtain ⟨s1, e1, e2⟩ := Option.bind_eq_some_iff.mp e
    exact ⟨d, ds, rfl, h _ _ _ ⟨s1, e1, h2 _ _ _ ⟨s', e2, q⟩⟩⟩
section
variable {X : Cx} {E : XK} {O vs : List Nat} {a b : FM D} {l : FM (List D)}
theorem loG {tg : Expr} {g : DG} {f : FG} (h : VG X O vs tg g) (le : ∀ d s Q, upG f d s Q → g d s Q) : VG X O vs tg (upG f) := by
  obtain ⟨mn, gt, p, q⟩ := h
  exact ⟨fun d s Q Q' hq ⟨s', e, z⟩ => ⟨s', e, hq _ z⟩, gt, p, fun aS A0 H0 σ H s n d v Q QH S r hm => q aS A0 H0 σ H s n d v Q QH S r (le _ _ _ hm)⟩
theorem loI {OB hid : List Nat} {tg iter : Expr} {m : EM (List D)} {f : FM (List D)} (h : VI X E O OB hid tg iter m) (le : ∀ xq s n Q, up f xq s n Q → m xq s n Q) : VI X E O OB hid tg iter (up f) := by
  obtain ⟨mn, t, p, q⟩ := h
  exact ⟨mn_up, t, p, fun aS A0 H0 σ H s n xq Q S L hm => q aS A0 H0 σ H s n xq Q S L (le _ _ _ _ hm)⟩
theorem loIs {tg iter : Expr} {m : EM (List D)} {f : FM (List D)} (h : VIs X E O tg iter m) (le : ∀ xq s n Q, up f xq s n Q → m xq s n Q) : VIs X E O tg iter (up f) := by
  obtain ⟨mn, t, p, q⟩ := h
  exact ⟨mn_up, t, p, fun aS A0 H0 σ H s n xq Q S L hm => q aS A0 H0 σ H s n xq Q S L (le _ _ _ _ hm)⟩
def fIter (a : FM D) : FM (List D) := fun s => (a s).bind fun d => ofO (dIter d)
theorem le_iter : ∀ xq s n Q, up (fIter a) xq s n Q → eIter (up a) xq s n Q := fun xq s n Q h => by
  unfold eIter up
  exact wp_mono (fun d h => wp_ofO h) (wp_bind h)
def fRange1 (a : FM D) : FM (List D) := fun s => (a s).bind fun d => match d with
  | .int j => if j ≤ LIM ∧ -(2 ^ 62) ≤ j then .ok ((List.range j.toNat).map fun i => .int (i : Nat)) else .bad
  | _ => .bad
theorem le_range1 : ∀ xq s n Q, up (fRange1 a) xq s n Q → eRange1 (up a) xq s n Q := fun xq s n Q h => by
  unfold eRange1 up
  refine wp_mono (fun d h => ?_) (wp_bind h)
  cases d with
  | int j =>
    obtain ⟨e, h⟩ := wp_dec h
    exact ⟨j, rfl, e.1, e.2, h⟩
  | _ => exact h.elim
def fEnum (a : FM D) : FM (List D) := fun s => (a s).bind fun d => (ofO (dSeq d)).bind fun ds => .ok (pairsD 0 ds)
theorem le_enum : ∀ xq s n Q, up (fEnum a) xq s n Q → eEnum (up a) xq s n Q := fun xq s n Q h => by
  unfold eEnum up
  exact wp_mono (fun d h => wp_ofO (wp_bind h)) (wp_bind h)
def fZip (a b : FM D) : FM (List D) := fun s => (a s).bind fun x => (b s).bind fun y => ofO (dZip x y)
theorem le_zip : ∀ xq s n Q, up (fZip a b) xq s n Q → eZip (up a) (up b) xq s n Q := fun xq s n Q h => by
  unfold eZip up
  exact wp_mono (fun d h => wp_mono (fun _ h => wp_ofO h) (wp_bind h)) (wp_bind h)
def fOwnL (i : Nat) : FM (List D) := fun s => match s[i]? with
  | some (some (.lst ds)) => .ok ds
  | _ => .bad
theorem le_own {i : Nat} : ∀ xq s n Q, up (fOwnL i) xq s n Q → eOwn i xq s n Q := fun xq s n Q h => by
  unfold up fOwnL at h
  split at h
  · rename_i ds e
    exact ⟨ds, e, h⟩
  · exact h.elim
end
/-! ### comprehensions -/
def fLcL (g : FG) (t : FM Bool) (e : FM D) (s0 : Ev) : List D → Res (List D)
  | [] => .ok []
  | d :: ds => (ofO (g d s0)).bind fun s1 => (t s1).calm.bind fun c => if c = true then (e s1).calm.bind fun x => (fLcL g t e s0 ds).bind fun xs => .ok (x :: xs) else fLcL g t e s0 ds
theorem wp_calm {α : Type} {r : Res α} {xq xq' : XQ} {n : Nat} {Q : α → Nat → Prop} (h : r.calm.wp xq n Q) : r.wp xq' n Q := by
  cases r with
  | ok a => exact h
  | ex x => exact False.elim h
  | bad => exact False.elim h
theorem lc_le {g : FG} {t : FM Bool} {e : FM D} {xq : XQ} {s0 : Ev} {n : Nat} : ∀ (ds acc : List D) (Q : List D → Nat → Prop), (fLcL g t e s0 ds).wp xq n (fun xs n' => Q (acc ++ xs) n') → sLcL (upG g) (up t) (up e) (fun _ _ => False) s0 ds n acc Q
  | [], acc, Q, h => by
    have h : Q (acc ++ []) n := h
    rw [List.append_nil] at h
    exact h
  | d :: ds, acc, Q, h => by
    obtain ⟨s1, e1, h⟩ := wp_ofO (wp_bind h)
    refine ⟨s1, e1, wp_calm (wp_mono (fun c h => ?_) (wp_bind h))⟩
    cases c with
    | false => exact lc_le ds acc Q h
    | true =>
      rw [if_pos rfl] at h ⊢
      refine wp_calm (wp_mono (fun x h => ?_) (wp_bind h))
      refine lc_le ds (acc ++ [x]) Q (wp_mono (fun xs h => ?_) (wp_bind h))
      rw [List.append_assoc]
      exact h
def fLc (i : FM (List D)) (hs : List Nat) (g : FG) (t : FM Bool) (e : FM D) : FM D := fun s => (i s).bind fun ds => if ds.length ≤ LIM then (fLcL g t e (hideL s hs) ds).calm.bind fun xs => .ok (.lst xs) else .bad
theorem le_lc {i : FM (List D)} {hs : List Nat} {g : FG} {t : FM Bool} {e : FM D} : ∀ xq s n Q, up (fLc i hs g t e) xq s n Q → eLc (up i) hs (upG g) (up t) (up e) xq s n Q := fun xq s n Q h => by
  unfold eLc up
  refine wp_mono (fun ds h => ?_) (wp_bind h)
  obtain ⟨e, h⟩ := wp_dec h
  exact ⟨e, lc_le (xq := xq) ds [] _ (wp_calm (wp_bind h))⟩
def fDcL (g : FG) (t : FM Bool) (k e : FM D) (s0 : Ev) : List D → List (Key × D) → Res (List (Key × D))
  | [], acc => .ok acc
  | d :: ds, acc => (ofO (g d s0)).bind fun s1 => (t s1).calm.bind fun c => if c = true then (k s1).calm.bind fun kd => (e s1).calm.bind fun x => (ofO (keyD kd)).bind fun kk => fDcL g t k e s0 ds (putD acc kk x) else fDcL g t k e s0 ds acc
theorem dc_le {g : FG} {t : FM Bool} {k e : FM D} {xq : XQ} {s0 : Ev} {n : Nat} : ∀ (ds : List D) (acc : List (Key × D)) (Q : List (Key × D) → Nat → Prop), (fDcL g t k e s0 ds acc).wp xq n Q → sDcL (upG g) (up t) (up k) (up e) (fun _ _ => False) s0 ds n acc Q
  | [], acc, Q, h => h
  | d :: ds, acc, Q, h => by
    obtain ⟨s1, e1, h⟩ := wp_ofO (wp_bind h)
    refine ⟨s1, e1, wp_calm (wp_mono (fun c h => ?_) (wp_bind h))⟩
    cases c with
    | false => exact dc_le ds acc Q h
    | true =>
      rw [if_pos rfl] at h ⊢
      refine wp_calm (wp_mono (fun kd h => ?_) (wp_bind h))
      refine wp_calm (wp_mono (fun x h => ?_) (wp_bind h))
      obtain ⟨kk, e2, h⟩ := wp_ofO (wp_bind h)
      exact ⟨kk, e2, dc_le ds _ Q h⟩
def fDc (i : FM (List D)) (hs : List Nat) (g : FG) (t : FM Bool) (k e : FM D) : FM D := fun s => (i s).bind fun ds => if ds.length ≤ LIM then (fDcL g t k e (hideL s hs) ds []).calm.bind fun xs => .ok (.dic xs) else .bad
theorem le_dc {i : FM (List D)} {hs : List Nat} {g : FG} {t : FM Bool} {k e : FM D} : ∀ xq s n Q, up (fDc i hs g t k e) xq s n Q → eDc (up i) hs (upG g) (up t) (up k) (up e) xq s n Q := fun xq s n Q h => by
  unfold eDc up
  refine wp_mono (fun ds h => ?_) (wp_bind h)
  obtain ⟨e, h⟩ := wp_dec h
  exact ⟨e, dc_le (xq := xq) ds [] _ (wp_calm (wp_bind h))⟩
/-- a dict by a path -/
def asDic : Option D → Res (List (Key × D))
  | some (.dic kvs) => .ok kvs
  | _ => .bad
theorem wp_asDic {o : Option D} {xq : XQ} {n : Nat} {Q : List (Key × D) → Nat → Prop} (h : (asDic o).wp xq n Q) : ∃ kvs, o = some (.dic kvs) ∧ Q kvs n := by
  unfold asDic at h
  split at h
  · exact ⟨_, rfl, h⟩
  · exact h.elim
def fLcD (p : Ev → Option D) (f : List (Key × D) → List D) (hs : List Nat) (g : FG) (t : FM Bool) (e : FM D) : FM D := fun s => (asDic (p s)).bind fun kvs => if (f kvs).length ≤ LIM then (fLcL g t e (hideL s hs) (f kvs)).calm.bind fun xs => .ok (.lst xs) else .bad
theorem le_lcD {p : Ev → Option D} {f : List (Key × D) → List D} {hs : List Nat} {g : FG} {t : FM Bool} {e : FM D} : ∀ xq s n Q, up (fLcD p f hs g t e) xq s n Q → eLcD p f hs (upG g) (up t) (up e) xq s n Q := fun xq s n Q h => by
  obtain ⟨kvs, e1, h⟩ := wp_asDic (wp_bind h)
  obtain ⟨e2, h⟩ := wp_dec h
  exact ⟨kvs, e1, e2, lc_le (xq := xq) _ [] _ (wp_calm (wp_bind h))⟩
end DL
namespace DL
open PySem PySem.Spec PyProof.Rows L2
variable [TabC]
/-! ### statements that are plain functions -/
inductive SO where
  | nx (s : Ev) | rt (d : D) | bk (s : Ev) | ct (s : Ev) | ex (x : XD) | bad
abbrev FS := Ev → SO
def SO.wp (o : SO) (xq : XQ) (de : DE) (n : Nat) : Prop := match o with
  | .nx s => de.nx s n
  | .rt d => de.rt d n
  | .bk s => de.bk s n
  | .ct s => de.ct s n
  | .ex x => xq x n
  | .bad => False
def upS (f : FS) : SM := fun xq de s n => (f s).wp xq de n
/-- an expression, then a statement's end -/
def Res.so {α : Type} (r : Res α) (k : α → SO) : SO := match r with
  | .ok a => k a
  | .ex x => .ex x
  | .bad => .bad
theorem wp_so {α : Type} {r : Res α} {k : α → SO} {xq : XQ} {de : DE} {n : Nat} (h : (r.so k).wp xq de n) : r.wp xq n fun a n' => (k a).wp xq de n' := by
  cases r <;> exact h
theorem so_dec {p : Prop} [Decidable p] {o : SO} {xq : XQ} {de : DE} {n : Nat} (h : (if p then o else .bad).wp xq de n) : p ∧ o.wp xq de n := by
  by_cases z : p
  · rw [if_pos z] at h
    exact ⟨z, h⟩
  · rw [if_neg z] at h
    exact h.elim
section
variable {X : Cx} {E : XK} {O O' OL : List Nat}
theorem loS {st : Stmt} {m : SM} {f : FS} (h : VS X E O O' OL st m) (le : ∀ xq de s n, upS f xq de s n → m xq de s n) : VS X E O O' OL st (upS f) := by
  obtain ⟨t, p, q⟩ := h
  exact ⟨t, p, fun aS A0 H0 σ H s n xq de De S L k hm => q aS A0 H0 σ H s n xq de De S L k (le _ _ _ _ hm)⟩
theorem loSs {st : List Stmt} {m : SM} {f : FS} (h : VSs X E O O' OL st m) (le : ∀ xq de s n, upS f xq de s n → m xq de s n) : VSs X E O O' OL st (upS f) := by
  obtain ⟨t, p, q⟩ := h
  exact ⟨t, p, fun aS A0 H0 σ H s n xq de De S L k hm => q aS A0 H0 σ H s n xq de De S L k (le _ _ _ _ hm)⟩
theorem loSF {st : List Stmt} {m : SM} {f : FS} (h : VSsF X E O st m) (le : ∀ xq de s n, upS f xq de s n → m xq de s n) : VSsF X E O st (upS f) := by
  obtain ⟨t, p, q⟩ := h
  exact ⟨t, p, fun aS A0 H0 σ H s n xq de De S L k hm => q aS A0 H0 σ H s n xq de De S L k (le _ _ _ _ hm)⟩
end
section
variable {a b : FM D} {t : FM Bool} {l : FM (List D)} {f g : FS}
def fNilS : FS := fun s => .nx s
theorem ls_nil : ∀ xq de s n, upS fNilS xq de s n → sNil xq de s n := fun _ _ _ _ h => h
def fSeq (f g : FS) : FS := fun s => match f s with
  | .nx s' => g s'
  | o => o
theorem ls_seq : ∀ xq de s n, upS (fSeq f g) xq de s n → sSeq (upS f) (upS g) xq de s n := fun xq de s n h => by
  unfold upS fSeq at h
  unfold sSeq upS
  cases e : f s <;> rw [e] at h <;> exact h
def fSeqF (f g : FS) : FS := fun s => match f s with
  | .nx s' => g s'
  | .ex x => .ex x
  | _ => .bad
theorem ls_seqF : ∀ xq de s n, upS (fSeqF f g) xq de s n → sSeqF (upS f) (upS g) xq de s n := fun xq de s n h => by
  unfold upS fSeqF at h
  unfold sSeqF upS
  cases e : f s <;> rw [e] at h <;> first | exact h | exact h.elim
def fRet (a : FM D) : FS := fun s => (a s).so .rt
theorem ls_ret : ∀ xq de s n, upS (fRet a) xq de s n → sRet (up a) xq de s n := fun xq de s n h => by
  unfold sRet up
  exact wp_so h
def fSet (i : Nat) (a : FM D) : FS := fun s => (a s).so fun d => .nx (s.set i (some d))
theorem ls_set {i : Nat} : ∀ xq de s n, upS (fSet i a) xq de s n → sSet i (up a) xq de s n := fun xq de s n h => by
  unfold sSet up
  exact wp_so h
def fSetF (i : Nat) (a : FM D) : FS := fun s => if i < s.length then (a s).so fun d => .nx (s.set i (some d)) else .bad
theorem ls_setF {i : Nat} : ∀ xq de s n, upS (fSetF i a) xq de s n → sSetF i (up a) xq de s n := fun xq de s n h => by
  obtain ⟨e, h⟩ := so_dec h
  exact ⟨e, wp_so h⟩
def fIfS (t : FM Bool) (f g : FS) : FS := fun s => (t s).so fun c => if c = true then f s else g s
theorem ls_if : ∀ xq de s n, upS (fIfS t f g) xq de s n → sIf (up t) (upS f) (upS g) xq de s n := fun xq de s n h => by
  unfold sIf up
  refine wp_mono (fun c h => ?_) (wp_so h)
  cases c <;> exact h
def fDrop (a : FM D) : FS := fun s => (a s).so fun _ => .nx s
theorem ls_drop : ∀ xq de s n, upS (fDrop a) xq de s n → sDrop (up a) xq de s n := fun xq de s n h => by
  unfold sDrop up
  exact wp_so h
/-- a list in a slot -/
def lstAt (s : Ev) (i : Nat) (k : List D → SO) : SO := match s[i]? with
  | some (some (.lst ds)) => k ds
  | _ => .bad
theorem wp_lstAt {s : Ev} {i : Nat} {k : List D → SO} {xq : XQ} {de : DE} {n : Nat} (h : (lstAt s i k).wp xq de n) : ∃ ds, s[i]? = some (some (.lst ds)) ∧ (k ds).wp xq de n := by
  unfold lstAt at h
  split at h
  · rename_i ds e
    exact ⟨ds, e, h⟩
  · exact h.elim
def dicAt (s : Ev) (i : Nat) (k : List (Key × D) → SO) : SO := match s[i]? with
  | some (some (.dic ds)) => k ds
  | _ => .bad
theorem wp_dicAt {s : Ev} {i : Nat} {k : List (Key × D) → SO} {xq : XQ} {de : DE} {n : Nat} (h : (dicAt s i k).wp xq de n) : ∃ ds, s[i]? = some (some (.dic ds)) ∧ (k ds).wp xq de n := by
  unfold dicAt at h
  split at h
  · rename_i ds e
    exact ⟨ds, e, h⟩
  · exact h.elim
def fApp (i : Nat) (a : FM D) : FS := fun s => lstAt s i fun ds => (a s).so fun d => if ds.length < LIM then .nx (s.set i (some (.lst (ds ++ [d])))) else .bad
theorem ls_app {i : Nat} : ∀ xq de s n, upS (fApp i a) xq de s n → sApp i (up a) xq de s n := fun xq de s n h => by
  obtain ⟨ds, e, h⟩ := wp_lstAt h
  exact ⟨ds, e, wp_mono (fun d h => so_dec h) (wp_so h)⟩
def asIns : List D → Option (Nat × D)
  | [.int k, d] => if 0 ≤ k then some (k.toNat, d) else none
  | _ => none
theorem asIns_ok {l : List D} {k : Nat} {d : D} (h : asIns l = some (k, d)) : l = [.int k, d] := by
  unfold asIns at h
  split at h
  · split at h
    · cases h
      rename_i k d hk
      rw [Int.toNat_of_nonneg hk]
    · cases h
  · cases h
def fIns (i : Nat) (l : FM (List D)) : FS := fun s => lstAt s i fun ds => (l s).so fun x => (ofO (asIns x)).so fun p => if ds.length < LIM ∧ p.1 ≤ LIM then .nx (s.set i (some (.lst (ds.take p.1 ++ [p.2] ++ ds.drop p.1)))) else .bad
theorem ls_ins {i : Nat} : ∀ xq de s n, upS (fIns i l) xq de s n → sIns i (up l) xq de s n := fun xq de s n h => by
  obtain ⟨ds, e, h⟩ := wp_lstAt h
  refine ⟨ds, e, wp_mono (fun x h => ?_) (wp_so h)⟩
  obtain ⟨⟨k, d⟩, e2, h⟩ := wp_ofO (wp_so h)
  obtain ⟨e3, h⟩ := so_dec h
  exact ⟨k, d, asIns_ok e2, e3.1, e3.2, h⟩
def fDput (i : Nat) (k a : FM D) : FS := fun s => (a s).so fun d => (k s).so fun kd => (ofO (keyD kd)).so fun kk => dicAt s i fun kvs => if kvs.length < LIM then .nx (s.set i (some (.dic (putD kvs kk d)))) else .bad
theorem ls_dput {i : Nat} : ∀ xq de s n, upS (fDput i b a) xq de s n → sDput i (up b) (up a) xq de s n := fun xq de s n h => by
  unfold sDput up
  refine wp_mono (fun d h => wp_mono (fun kd h => ?_) (wp_so h)) (wp_so h)
  obtain ⟨kk, e, h⟩ := wp_ofO (wp_so h)
  obtain ⟨kvs, e2, h⟩ := wp_dicAt h
  obtain ⟨e3, h⟩ := so_dec h
  exact ⟨kk, kvs, e, e2, e3, h⟩
def fFldS (i : Nat) (C g : Str) (a : FM D) : FS := fun s => (a s).so fun d => match s[i]? with
  | some (some (.obj C' fs)) => if C' = C ∧ fs.length < 1000 then .nx (s.set i (some (.obj C (putFD g d fs)))) else .bad
  | _ => .bad
def fAsg (a : FM D) (g : FG) : FS := fun s => (a s).so fun d => (ofO (g d s)).so .nx
theorem ls_asg {g : FG} : ∀ xq de s n, upS (fAsg a g) xq de s n → sAsg (up a) (upG g) xq de s n := fun xq de s n h => by
  unfold sAsg up
  exact wp_mono (fun d h => wp_ofO (wp_so h)) (wp_so h)
def fPar (i j : Nat) (a b : FM D) : FS := fun s => (a s).so fun d => (b s).so fun d' => .nx ((s.set i (some d)).set j (some d'))
theorem ls_par {i j : Nat} : ∀ xq de s n, upS (fPar i j a b) xq de s n → sPar i j (up a) (up b) xq de s n := fun xq de s n h => by
  unfold sPar up
  exact wp_mono (fun d h => wp_so h) (wp_so h)
def fParFF (i j : Nat) (a b : FM D) : FS := fun s => if i < s.length ∧ j < s.length then (a s).calm.so fun d => (b s).calm.so fun d' => .nx ((s.set i (some d)).set j (some d')) else .bad
theorem ls_parFF {i j : Nat} : ∀ xq de s n, upS (fParFF i j a b) xq de s n → sParFF i j (up a) (up b) xq de s n := fun xq de s n h => by
  obtain ⟨e, h⟩ := so_dec h
  refine ⟨e.1, e.2, ?_⟩
  unfold sPar up
  exact wp_calm (wp_mono (fun d h => wp_calm (wp_so h)) (wp_so h))
def fRaise (C : Str) (fl : List Str) (l : FM (List D)) : FS := fun s => (l s).so fun ds => if ds.length = fl.length then .ex (C, ES.fsOf fl ds) else .bad
theorem ls_raise {C : Str} {fl : List Str} : ∀ xq de s n, upS (fRaise C fl l) xq de s n → sRaise C fl (up l) xq de s n := fun xq de s n h => by
  unfold sRaise up
  exact wp_mono (fun ds h => so_dec h) (wp_so h)
/-! loops -/
def fForL (g : FG) (b : FS) : List D → FS
  | [], s => .nx s
  | d :: ds, s => (ofO (g d s)).so fun s1 => match b s1 with
    | .nx s2 => fForL g b ds s2
    | .ct s2 => fForL g b ds s2
    | .bk s2 => .nx s2
    | o => o
theorem for_le {g : FG} {b : FS} {xq : XQ} {de : DE} {n : Nat} : ∀ (ds : List D) (s : Ev), (fForL g b ds s).wp xq de n → sForL (upG g) (upS b) xq de ds s n
  | [], s, h => h
  | d :: ds, s, h => by
    obtain ⟨s1, e1, h⟩ := wp_ofO (wp_so h)
    refine ⟨s1, e1, ?_⟩
    change (b s1).wp xq { de with nx := fun s2 n2 => sForL (upG g) (upS b) xq de ds s2 n2, ct := fun s2 n2 => sForL (upG g) (upS b) xq de ds s2 n2, bk := de.nx } n
    cases e : b s1 <;> rw [e] at h
    · exact for_le ds _ h
    · exact h
    · exact h
    · exact for_le ds _ h
    · exact h
    · exact h
def fFor (i : FM (List D)) (g : FG) (b : FS) : FS := fun s => (i s).so fun ds => fForL g b ds s
theorem ls_for {i : FM (List D)} {g : FG} {b : FS} : ∀ xq de s n, upS (fFor i g b) xq de s n → sFor (up i) (upG g) (upS b) xq de s n := fun xq de s n h => by
  unfold sFor up
  exact wp_mono (fun ds h => for_le ds s h) (wp_so h)
def fForD (p : Ev → Option D) (k : List (Key × D) → List D) (g : FG) (b : FS) : FS := fun s => (asDic (p s)).so fun kvs => fForL g b (k kvs) s
theorem ls_forD {p : Ev → Option D} {k : List (Key × D) → List D} {g : FG} {b : FS} : ∀ xq de s n, upS (fForD p k g b) xq de s n → sForD p k (upG g) (upS b) xq de s n := fun xq de s n h => by
  obtain ⟨kvs, e, h⟩ := wp_asDic (wp_so h)
  exact ⟨kvs, e, for_le _ s h⟩
def fWhileN (t : FM Bool) (b : FS) : Nat → FS
  | 0, _ => .bad
  | k + 1, s => (t s).so fun c => if c = true then (match b s with
    | .nx s2 => fWhileN t b k s2
    | .ct s2 => fWhileN t b k s2
    | .bk s2 => .nx s2
    | o => o) else .nx s
theorem while_le {t : FM Bool} {b : FS} {xq : XQ} {de : DE} {n : Nat} : ∀ (k : Nat) (s : Ev), (fWhileN t b k s).wp xq de n → sWhileN (up t) (upS b) xq de k s n
  | 0, s, h => h
  | k + 1, s, h => by
    unfold sWhileN up
    refine wp_mono (fun c h => ?_) (wp_so h)
    cases c with
    | false => exact h
    | true =>
      rw [if_pos rfl] at h ⊢
      change (b s).wp xq { de with nx := fun s2 n2 => sWhileN (up t) (upS b) xq de k s2 n2, ct := fun s2 n2 => sWhileN (up t) (upS b) xq de k s2 n2, bk := de.nx } n
      cases e : b s <;> rw [e] at h
      · exact while_le k _ h
      · exact h
      · exact h
      · exact while_le k _ h
      · exact h
      · exact h
def FUEL : Nat := 1000000
def fWhile (t : FM Bool) (b : FS) : FS := fWhileN t b FUEL
theorem ls_while {t : FM Bool} {b : FS} : ∀ xq de s n, upS (fWhile t b) xq de s n → sWhile (up t) (upS b) xq de s n := fun xq de s n h => ⟨FUEL, while_le _ _ h⟩
end
/-! ### defs -/
def runB (N : List Str) (b : FS) : FFn := fun ds => match b (startD N ds) with
  | .nx _ => .ok .non
  | .rt d => .ok d
  | .ex x => .ex x
  | _ => .bad
/-- .. that end by return alone -/
def runF (N : List Str) (b : FS) : FFn := fun ds => match b (startD N ds) with
  | .rt d => .ok d
  | .ex x => .ex x
  | _ => .bad
/-- the object that slot 0 holds -/
def objAt (C : Str) (s : Ev) : Res D := match s[0]? with
  | some (some (D.obj C' fs)) => if C' = C then .ok (.obj C fs) else .bad
  | _ => .bad
theorem wp_objAt {C : Str} {s : Ev} {xq : XQ} {n : Nat} {Q : D → Nat → Prop} (h : (objAt C s).wp xq n Q) : ∃ fs, s[0]? = some (some (.obj C fs)) ∧ Q (.obj C fs) n := by
  unfold objAt at h
  split at h
  · rename_i C' fs e2
    obtain ⟨e3, h⟩ := wp_dec h
    exact ⟨fs, by rw [e2, e3], h⟩
  · exact h.elim
def runI (C : Str) (N : List Str) (b : FS) : FFn := fun ds => match b (startD N (.obj C [] :: ds)) with
  | .nx s => objAt C s
  | .ex x => .ex x
  | _ => .bad
theorem meets {len : Nat} {N : List Str} {b : FS} : Meets len N (FSp.of (runB N b)) (upS b) := fun ds n Q xq hl h => by
  have h : (runB N b ds).wp xq n Q := h
  unfold runB at h
  unfold upS
  cases e : b (startD N ds) <;> rw [e] at h <;> first | exact h | exact h.elim
theorem meetsF {len : Nat} {N : List Str} {b : FS} : MeetsF len N (FSp.of (runF N b)) (upS b) := fun ds n Q xq hl h => by
  have h : (runF N b ds).wp xq n Q := h
  unfold runF at h
  unfold upS
  cases e : b (startD N ds) <;> rw [e] at h <;> first | exact h | exact h.elim
theorem meetsI {C : Str} {len : Nat} {N : List Str} {b : FS} : MeetsI C len N (FSp.of (runI C N b)) (upS b) := fun ds n Q xq hl h => by
  have h : (runI C N b ds).wp xq n Q := h
  unfold runI at h
  unfold upS
  cases e : b (startD N (.obj C [] :: ds)) <;> rw [e] at h <;> first | exact wp_objAt h | exact h | exact h.elim
end DL
namespace DL
open PySem PySem.Spec PyProof.Rows L2
variable [TabC]
section
variable {X : Cx} {E : XK} {O : List Nat} {a b c o : FM D} {l : FM (List D)}
theorem ls_retV {i : Nat} : ∀ xq de s n, upS (fRet (fVar i)) xq de s n → sRet (eVar i) xq de s n := fun xq de s n h => le_var i _ _ _ _ (ls_ret _ _ _ _ h)
theorem ls_setM {i : Nat} {m : EM D} (le : ∀ xq s n Q, up a xq s n Q → m xq s n Q) : ∀ xq de s n, upS (fSetF i a) xq de s n → sSetF i m xq de s n := fun xq de s n h => by
  obtain ⟨e, h⟩ := ls_setF _ _ _ _ h
  exact ⟨e, le _ _ _ _ h⟩
theorem le_meth0 {C mn : Str} {len : Nat} {f : FFn} {dds : List D} : ∀ xq s n Q, up (fMeth C mn len f dds o fNil) xq s n Q → eMeth C mn len (FSp.of f) dds (up o) eNil xq s n Q := fun xq s n Q h => le_meth _ _ _ _ h
theorem loW {e : Expr} {m : EM Bool} {f : FM Bool} (h : VW X E O e m) (le : ∀ xq s n Q, up f xq s n Q → m xq s n Q) : VW X E O e (up f) := by
  obtain ⟨mn, t, p, q⟩ := h
  exact ⟨mn_up, t, p, fun aS A0 H0 σ H s n xq Q S L hm => q aS A0 H0 σ H s n xq Q S L (le _ _ _ _ hm)⟩
end
end DL
namespace DL
open PySem PySem.Spec PyProof.Rows L2
/-! `{**d, k: v}` and `{**d, **e}` -/
section
variable {P : Program} {w : World} {A : Around} {E : Value → Shared → Prop} {s : Shared}
section
variable {M : Model} {Γ : PySem.Ctx} {a : Addr} {f : Array DictEntry → Array DictEntry} {pt : Option Value} {Q : Unit → Pos → Shared → Prop} {X : Value → Pos → Shared → Prop} {p : Pos}
end
end
section
variable {X : Cx} {m e : Expr} {k v : Expr} {tm te tk tv : TE} {pos : Pos}
end
end DL
namespace DL
open PySem PySem.Spec PyProof.Rows L2
variable [TabC]
section
variable {K : PySem.W.Frag} {aS p : Addr} {H H' H0 : Hp} {A : AS} {A0 A1 : A0T} {O : List Nat} {σ : L2.St} {s : Ev} {n n' : Nat}
end
section
variable {X : Cx} {E : XK} {O : List Nat} {m e k v : Expr} {mm me mk mv : EM D} {pos : Pos}
end
end DL
namespace DL
open PySem PySem.Spec PyProof.Rows L2
variable [TabC]
/-! `{k: v, ..}` -/
section
variable {X : Cx} {E : XK} {O : List Nat} {k v : Expr} {ks : List (Option Expr)} {vs : List Expr} {mk mv : EM D} {mp : EM (List (D × D))} {pos : Pos}
end
end DL
namespace DL
open PySem PySem.Spec PyProof.Rows L2
variable [TabC]
/-! o[k] by an own __getitem__ -/
section
variable {X : Cx} {CX : CXT} {C f : Addr} {fd : FuncData} {ps : List Str} {sp : Sp} {E : XK} {k : Nat} {o e : Expr} {to te : TE} {pos : Pos}
theorem run_in1 {pins : List (Addr × Obj)} {σ : L2.St} {H : Hp} {s : Shared} {Q : VK} {us : List Value} {vs : List V} (F : FnOk X.prog X.w X.K X.mg X.base CX k f fd ps sp) (hr : Room (k + 1) X.A) (hb : Binds X.K fd ps []) (hx : Passes CX X E)
    (I : L2.Inv X pins σ H s) (r : Vals vs us) (h : sp vs H Q E) : wpAny (model X.prog X.w) X.A.in1 (call (.ref f) us) (EP X pins σ Q) X.xe s := by
  have e := I.env0
  have e0 : Env0 X.prog X.w X.K X.mg X.base X.A.in1 X.stack s H := ⟨e.frames, e.mod, e.bs, e.bsz, e.funs, e.frf, e.hok, e.bare⟩
  have hl : us.length = ps.length := by rw [← r.length]; exact F.len _ _ _ _ h
  have bd := hb s us I.kIn (by rw [List.append_nil]; exact hl)
  rw [List.append_nil] at bd
  refine wpAny_call (codeAny_mono (F.run X.A.in1 X.stack s H ⟨us, []⟩ us vs Q E hr.in1 e0 bd r h) fun r s' hq => ?_)
  cases r with
  | error x => exact hx pins σ H s x s' I hq
  | ok fl =>
    cases fl with
    | ret u => exact I.after hq
    | _ => exact False.elim hq
end
section
variable {X : Cx} {E : XK} {O : List Nat} {e o : Expr} {mo me : EM D} {pos : Pos} {C : Str} {ps : List Str} {k k' : Nat} {sp : FSp}
end
end DL
namespace DL
open PySem PySem.Spec PyProof.Rows L2
/-! set(d) of a dict -/
section
variable {P : Program} {w : World} {A : Around} {E : Value → Shared → Prop} {s : Shared} {K : Type} [DecidableEq K] {knd : PySem.KeyKind P w K}
end
end DL
namespace DL
open PySem PySem.Spec PyProof.Rows L2
section
variable {P : Program} {w : World} {A : Around} {E : Value → Shared → Prop} {s : Shared} {K : Type} [DecidableEq K] {knd : PySem.KeyKind P w K}
end
end DL
namespace DL
open PySem PySem.Spec PyProof.Rows L2
section
variable {P : Program} {w : World} {A : Around} {E : Value → Shared → Prop} {s : Shared} {K : Type} [DecidableEq K] {knd : PySem.KeyKind P w K}
end
end DL
namespace DL
open PySem PySem.Spec PyProof.Rows L2
variable [TabC]
section
variable {X : Cx}
end
section
variable {X : Cx} {E : XK} {O : List Nat} {a b : Expr} {ma mb : EM D} {pos p1 p2 q1 q2 : Pos}
end
end DL
namespace DL
open PySem PySem.Spec PyProof.Rows L2
variable [TabC]
/-! displays of dicts, sets of keys, items of own classes -/
section
variable {X : Cx} {E : XK} {O : List Nat} {a b c o : FM D}
end
end DL
namespace DL
open PySem PySem.Spec PyProof.Rows L2
variable [TabC]
/-! raise X() -/
section
variable {X : Cx} {E : XK} {O O' OL : List Nat} {pos p rpos : Pos} {x : Str}
end
end DL
namespace DL
open PySem PySem.Spec PyProof.Rows L2
variable [TabC]
/-! three targets -/
section
variable {X : Cx} {E : XK} {O OL : List Nat} {a b c : Expr} {ma mb mc : EM D} {pos : Pos} {i j l : Nat} {x y z : Str}
end
end DL
namespace DL
open PySem PySem.Spec PyProof.Rows L2
variable [TabC]
/-! ### plain steps -/
abbrev sOk (x : Str) : Prop := PyData.strOk x = true
theorem okD_str {x : Str} (h : sOk x) : okD (.str x) = true := by
  unfold okD SeqAt.shaped
  simp only [toPD, PyData.canLay0, PyData.depth]
  rw [h]
  rfl
theorem okD_int (i : Int) : okD (.int i) = true := by
  unfold okD SeqAt.shaped
  simp only [toPD, PyData.canLay0, PyData.depth]
  rfl
theorem okD_bl (b : Bool) : okD (.bl b) = true := by
  unfold okD SeqAt.shaped
  simp only [toPD, PyData.canLay0, PyData.depth]
  rfl
theorem pyEq_str (x y : Str) : pyEq (.str x) (.str y) = (x == y) := by
  unfold pyEq
  simp only [toPD, PyData.eqv]
theorem pyEq_int (x y : Int) : pyEq (.int x) (.int y) = (x == y) := by
  unfold pyEq
  simp only [toPD, PyData.eqv]
theorem dEq_str {x y : Str} (hx : sOk x) (hy : sOk y) : dEq (.str x) (.str y) = some (.bl (x == y)) := by
  unfold dEq
  rw [okD_str hx, okD_str hy, pyEq_str]
  rfl
theorem dNe_str {x y : Str} (hx : sOk x) (hy : sOk y) : dNe (.str x) (.str y) = some (.bl (!(x == y))) := by
  unfold dNe
  rw [okD_str hx, okD_str hy, pyEq_str]
  rfl
theorem dEq_int {x y : Int} : dEq (.int x) (.int y) = some (.bl (x == y)) := by
  unfold dEq
  rw [okD_int, okD_int, pyEq_int]
  rfl
theorem lay_all : ∀ xs : List D, (∀ x ∈ xs, (toPD x).canLay0 = true) → PyData.canLayAll0 (toPDs xs) = true
  | [], _ => by simp only [toPDs, PyData.canLayAll0]
  | x :: xs, h => by
    simp only [toPDs, PyData.canLayAll0, Bool.and_eq_true]
    exact ⟨h x List.mem_cons_self, lay_all xs fun y hy => h y (List.mem_cons_of_mem _ hy)⟩
theorem depth_all {k : Nat} : ∀ xs : List D, (∀ x ∈ xs, (toPD x).depth ≤ k) → PyData.depthAll (toPDs xs) ≤ k
  | [], _ => by simp only [toPDs, PyData.depthAll]; omega
  | x :: xs, h => by
    simp only [toPDs, PyData.depthAll]
    have h1 := h x List.mem_cons_self
    have h2 := depth_all xs fun y hy => h y (List.mem_cons_of_mem _ hy)
    omega
/-- what can be compared, so deep -/
structure OkN (k : Nat) (d : D) : Prop where
  lay : (toPD d).canLay0 = true
  dep : (toPD d).depth ≤ k
theorem OkN.ok {k : Nat} {d : D} (h : OkN k d) (hk : k ≤ 64) : okD d = true := by
  unfold okD SeqAt.shaped
  rw [h.lay, decide_eq_true (by have := h.dep; omega)]
  rfl
theorem OkN.str {k : Nat} {x : Str} (h : sOk x) : OkN k (.str x) := ⟨by simp only [toPD, PyData.canLay0]; exact h, by simp only [toPD, PyData.depth]; omega⟩
theorem OkN.lst {k : Nat} {xs : List D} (h : ∀ x ∈ xs, OkN k x) : OkN (k + 1) (.lst xs) := ⟨by simp only [toPD, PyData.canLay0]; exact lay_all xs fun x hx => (h x hx).lay, by
  simp only [toPD, PyData.depth]
  exact Nat.succ_le_succ (depth_all xs fun x hx => (h x hx).dep)⟩
theorem dNe_ok {a b : D} (ha : okD a = true) (hb : okD b = true) : dNe a b = some (.bl (!pyEq a b)) := by
  unfold dNe
  rw [ha, hb]
  rfl
theorem ok_strs {xs : List Str} (h : ∀ x ∈ xs, sOk x) : okD (.lst (xs.map .str)) = true := (OkN.lst (k := 0) fun d hd => by
  obtain ⟨x, hx, rfl⟩ := List.mem_map.mp hd
  exact .str (h x hx)).ok (by decide)
theorem any_strs {x : Str} : ∀ (xs : List Str), ((xs.map D.str).any fun y => pyEq y (.str x)) = decide (x ∈ xs)
  | [] => rfl
  | y :: ys => by
    rw [List.map_cons, List.any_cons, any_strs ys, pyEq_str]
    by_cases e : y = x
    · subst e; simp
    · have e2 : ¬ x = y := fun z => e z.symm
      simp [e, e2]
theorem dInB_strs {x : Str} {xs : List Str} (hx : sOk x) (h : ∀ x ∈ xs, sOk x) : dInB (.str x) (.lst (xs.map .str)) = some (decide (x ∈ xs)) := by
  show (if (okD (.str x) && okD (.lst (xs.map .str))) = true then some ((xs.map D.str).any fun y => pyEq y (.str x)) else none) = _
  rw [okD_str hx, ok_strs h, any_strs]
  rfl
theorem dIn_strs {x : Str} {xs : List Str} (hx : sOk x) (h : ∀ x ∈ xs, sOk x) : dIn (.str x) (.lst (xs.map .str)) = some (.bl (decide (x ∈ xs))) := by
  unfold dIn
  rw [dInB_strs hx h]
  rfl
theorem dNotIn_strs {x : Str} {xs : List Str} (hx : sOk x) (h : ∀ x ∈ xs, sOk x) : dNotIn (.str x) (.lst (xs.map .str)) = some (.bl (!decide (x ∈ xs))) := by
  unfold dNotIn
  rw [dInB_strs hx h]
  rfl
/-! lists, by places -/
theorem dIdx_lst {xs : List D} {k : Nat} : dIdx (.lst xs) (.int (k : Int)) = xs[k]? := atI_nat xs k
/-! dicts of texts, typed: a list of pairs and a function to data -/
def mapD {α : Type} (f : α → D) (l : List (Str × α)) : List (Key × D) := l.map fun p => (.inr p.1, f p.2)
theorem lookK_map {α : Type} (f : α → D) (x : Str) : ∀ l : List (Str × α), lookK (mapD f l) (.inr x) = (l.lookup x).map f
  | [] => rfl
  | (y, a) :: l => by
    have ih := lookK_map f x l
    unfold lookK mapD at ih ⊢
    rw [List.map_cons, List.find?_cons, List.lookup_cons]
    by_cases e : x = y
    · subst e
      simp
    · have e1 : ¬ (Sum.inr y : Key) = Sum.inr x := fun z => e (Sum.inr.inj z).symm
      have e2 : (x == y) = false := by simpa using e
      rw [e2]
      simp only [e1, decide_false]
      exact ih
theorem dIdx_map {α : Type} {f : α → D} {x : Str} {l : List (Str × α)} : dIdx (.dic (mapD f l)) (.str x) = (l.lookup x).map f := lookK_map f x l
theorem dInB_map {α : Type} {f : α → D} {x : Str} {l : List (Str × α)} : dInB (.str x) (.dic (mapD f l)) = some (l.lookup x).isSome := by
  show some (lookK (mapD f l) (.inr x)).isSome = _
  rw [lookK_map]
  cases l.lookup x <;> rfl
theorem dIn_map {α : Type} {f : α → D} {x : Str} {l : List (Str × α)} : dIn (.str x) (.dic (mapD f l)) = some (.bl (l.lookup x).isSome) := by
  unfold dIn
  rw [dInB_map]
  rfl
theorem keys_map {α : Type} (f : α → D) (l : List (Str × α)) : keysD (mapD f l) = (l.map (·.1)).map .str := by
  unfold keysD mapD
  rw [List.map_map, List.map_map, List.map_map]
  rfl
theorem dList_map {α : Type} (f : α → D) (l : List (Str × α)) : dList [.dic (mapD f l)] = some (.lst ((l.map (·.1)).map .str)) := by
  show some (D.lst (keysD (mapD f l))) = _
  rw [keys_map]
theorem items_map {α : Type} (f : α → D) (l : List (Str × α)) : itemsD (mapD f l) = l.map fun p => .tup [.str p.1, f p.2] := by
  unfold itemsD mapD
  rw [List.map_map]
  rfl
theorem look_some {α : Type} {x : Str} {a : α} : ∀ {l : List (Str × α)}, l.lookup x = some a → (x, a) ∈ l
  | (y, b) :: l, h => by
    rw [List.lookup_cons] at h
    by_cases e : x = y
    · subst e
      simp at h
      subst h
      exact List.mem_cons_self
    · have e2 : (x == y) = false := by simpa using e
      rw [e2] at h
      exact List.mem_cons_of_mem _ (look_some h)
theorem look_of {α : Type} {x : Str} {a : α} : ∀ {l : List (Str × α)}, (l.map (·.1)).Nodup → (x, a) ∈ l → l.lookup x = some a
  | (y, b) :: l, hn, h => by
    rw [List.map_cons, List.nodup_cons] at hn
    rw [List.lookup_cons]
    rcases List.mem_cons.mp h with e | hm
    · cases e
      simp
    · have e : x ≠ y := fun z => hn.1 (by subst z; exact List.mem_map.mpr ⟨(x, a), hm, rfl⟩)
      have e2 : (x == y) = false := by simpa using e
      rw [e2]
      exact look_of hn.2 hm
theorem look_none {α : Type} {x : Str} : ∀ {l : List (Str × α)}, x ∉ l.map (·.1) → l.lookup x = none
  | [], _ => rfl
  | (y, b) :: l, h => by
    rw [List.map_cons, List.mem_cons, not_or] at h
    rw [List.lookup_cons]
    have e2 : (x == y) = false := by simpa using h.1
    rw [e2]
    exact look_none h.2
theorem look_mem {α : Type} {x : Str} {l : List (Str × α)} (h : x ∈ l.map (·.1)) : ∃ a, l.lookup x = some a := by
  induction l with
  | nil => cases h
  | cons p l ih =>
    obtain ⟨y, b⟩ := p
    rw [List.lookup_cons]
    by_cases e : x = y
    · subst e
      exact ⟨b, by simp⟩
    · have e2 : (x == y) = false := by simpa using e
      rw [e2]
      rcases List.mem_cons.mp h with z | z
      · exact absurd z e
      · exact ih z
theorem look_isSome {α : Type} {x : Str} {l : List (Str × α)} : (l.lookup x).isSome = decide (x ∈ l.map (·.1)) := by
  by_cases h : x ∈ l.map (·.1)
  · obtain ⟨a, e⟩ := look_mem h
    rw [e, decide_eq_true h]
    rfl
  · rw [look_none h, decide_eq_false h]
    rfl
theorem put_new {α : Type} {f : α → D} {l : List (Str × α)} {x : Str} {a : α} (h : x ∉ l.map (·.1)) : putD (mapD f l) (.inr x) (f a) = mapD f (l ++ [(x, a)]) := by
  unfold putD
  rw [lookK_map, look_none h]
  show (mapD f l).concat _ = _
  unfold mapD
  rw [List.concat_eq_append, List.map_append]
  rfl
/-! steps -/
theorem runB_rt {N : List Str} {b : FS} {ds : List D} {d : D} (h : b (startD N ds) = .rt d) : runB N b ds = .ok d := by
  unfold runB
  rw [h]
theorem runB_nx {N : List Str} {b : FS} {ds : List D} {s : Ev} (h : b (startD N ds) = .nx s) : runB N b ds = .ok .non := by
  unfold runB
  rw [h]
theorem runB_ex {N : List Str} {b : FS} {ds : List D} {x : XD} (h : b (startD N ds) = .ex x) : runB N b ds = .ex x := by
  unfold runB
  rw [h]
theorem runI_nx {C : Str} {N : List Str} {b : FS} {ds : List D} {s : Ev} {d : D} (h : b (startD N (.obj C [] :: ds)) = .nx s) (h2 : objAt C s = .ok d) : runI C N b ds = .ok d := by
  unfold runI
  rw [h]
  exact h2
section
variable {s s' : Ev} {f g : FS} {o : SO} {a b c : FM D} {t u : FM Bool} {l : FM (List D)} {d d' : D}
theorem seqN (h : f s = .nx s') (h2 : g s' = o) : fSeq f g s = o := by
  unfold fSeq
  rw [h]
  exact h2
theorem seqR (h : f s = .rt d) : fSeq f g s = .rt d := by
  unfold fSeq
  rw [h]
theorem retE (h : a s = .ok d) : fRet a s = .rt d := by
  unfold fRet
  rw [h]
  rfl
theorem setE {i : Nat} (h : a s = .ok d) : fSet i a s = .nx (s.set i (some d)) := by
  unfold fSet
  rw [h]
  rfl
theorem setFE {i : Nat} (hi : i < s.length) (h : a s = .ok d) : fSetF i a s = .nx (s.set i (some d)) := by
  unfold fSetF
  rw [h, if_pos hi]
  rfl
theorem dropE (h : a s = .ok d) : fDrop a s = .nx s := by
  unfold fDrop
  rw [h]
  rfl
theorem ifsT (h : t s = .ok true) (h2 : f s = o) : fIfS t f g s = o := by
  unfold fIfS
  rw [h]
  exact h2
theorem ifsF (h : t s = .ok false) (h2 : g s = o) : fIfS t f g s = o := by
  unfold fIfS
  rw [h]
  exact h2
theorem forE {i : FM (List D)} {g : FG} {ds : List D} (h : i s = .ok ds) (h2 : fForL g f ds s = o) : fFor i g f s = o := by
  unfold fFor
  rw [h]
  exact h2
theorem forDE {p : Ev → Option D} {k : List (Key × D) → List D} {g : FG} {kvs : List (Key × D)} (h : p s = some (.dic kvs)) (h2 : fForL g f (k kvs) s = o) : fForD p k g f s = o := by
  unfold fForD
  rw [h]
  exact h2
theorem asgE {g : FG} (h : a s = .ok d) (h2 : g d s = some s') : fAsg a g s = .nx s' := by
  unfold fAsg
  rw [h]
  show (ofO (g d s)).so .nx = _
  rw [h2]
  rfl
theorem parE {i j : Nat} (h : a s = .ok d) (h2 : b s = .ok d') : fPar i j a b s = .nx ((s.set i (some d)).set j (some d')) := by
  unfold fPar
  rw [h, h2]
  rfl
theorem parFFE {i j : Nat} (hi : i < s.length) (hj : j < s.length) (h : a s = .ok d) (h2 : b s = .ok d') : fParFF i j a b s = .nx ((s.set i (some d)).set j (some d')) := by
  unfold fParFF
  rw [h, h2, if_pos ⟨hi, hj⟩]
  rfl
theorem appE {i : Nat} {ds : List D} (h : s[i]? = some (some (.lst ds))) (h2 : a s = .ok d) (hl : ds.length < LIM) : fApp i a s = .nx (s.set i (some (.lst (ds ++ [d])))) := by
  unfold fApp lstAt
  rw [h]
  show (a s).so _ = _
  rw [h2]
  show (if ds.length < LIM then _ else _) = _
  rw [if_pos hl]
theorem insE {i k : Nat} {ds : List D} (h : s[i]? = some (some (.lst ds))) (h2 : l s = .ok [.int k, d]) (hl : ds.length < LIM) (hk : k ≤ LIM) : fIns i l s = .nx (s.set i (some (.lst (ds.take k ++ [d] ++ ds.drop k)))) := by
  unfold fIns lstAt
  rw [h]
  show (l s).so _ = _
  rw [h2]
  have e : asIns [.int (k : Int), d] = some (k, d) := by simp [asIns]
  simp only [Res.so, e, ofO]
  rw [if_pos ⟨hl, hk⟩]
theorem dputE {i : Nat} {kvs : List (Key × D)} {kk : Key} (h : a s = .ok d) (h2 : b s = .ok d') (hk : keyD d' = some kk) (h3 : s[i]? = some (some (.dic kvs))) (hl : kvs.length < LIM) : fDput i b a s = .nx (s.set i (some (.dic (putD kvs kk d)))) := by
  unfold fDput
  rw [h]
  show (b s).so _ = _
  rw [h2]
  show (ofO (keyD d')).so _ = _
  rw [hk]
  show dicAt s i _ = _
  unfold dicAt
  rw [h3]
  show (if kvs.length < LIM then _ else _) = _
  rw [if_pos hl]
/-! expressions -/
theorem binE {f : D → D → Option D} {x y : D} (h : a s = .ok x) (h2 : b s = .ok y) (h3 : f x y = some d) : fBin f a b s = .ok d := by
  unfold fBin
  rw [h, h2]
  show ofO (f x y) = _
  rw [h3]
  rfl
theorem binTE {f : D → D → Option D} {x y : D} {k : Bool} (h : a s = .ok x) (h2 : b s = .ok y) (h3 : f x y = some (.bl k)) : fBinT f a b s = .ok k := by
  unfold fBinT
  rw [h, h2]
  show ofB (f x y) = _
  rw [h3]
  rfl
theorem bltE {f : List D → Option D} {xs : List D} (h : l s = .ok xs) (h3 : f xs = some d) : fBlt f l s = .ok d := by
  unfold fBlt
  rw [h]
  show ofO (f xs) = _
  rw [h3]
  rfl
theorem consE {ds : List D} (h : a s = .ok d) (h2 : l s = .ok ds) : fCons a l s = .ok (d :: ds) := by
  unfold fCons
  rw [h, h2]
  rfl
theorem tupE {ds : List D} (h : l s = .ok ds) (hl : ds.length ≤ 1000) : fTup l s = .ok (.tup ds) := by
  unfold fTup
  rw [h]
  show (if ds.length ≤ 1000 then _ else _) = _
  rw [if_pos hl]
theorem lstE {ds : List D} (h : l s = .ok ds) (hl : ds.length ≤ 1000) : fLst l s = .ok (.lst ds) := by
  unfold fLst
  rw [h]
  show (if ds.length ≤ 1000 then _ else _) = _
  rw [if_pos hl]
theorem valE {k : Bool} (h : a s = .ok (.bl k)) : fVal a s = .ok k := by
  unfold fVal
  rw [h]
  rfl
theorem notTE {k : Bool} (h : t s = .ok k) : fNotT t s = .ok (!k) := by
  unfold fNotT
  rw [h]
  rfl
theorem andT {r : Res D} (h : a s = .ok (.bl true)) (h2 : b s = r) : fAnd a b s = r := by
  unfold fAnd
  rw [h]
  exact h2
theorem andF (h : a s = .ok (.bl false)) : fAnd a b s = .ok (.bl false) := by
  unfold fAnd
  rw [h]
  rfl
theorem orT (h : a s = .ok (.bl true)) : fOr a b s = .ok (.bl true) := by
  unfold fOr
  rw [h]
  rfl
theorem orF {r : Res D} (h : a s = .ok (.bl false)) (h2 : b s = r) : fOr a b s = r := by
  unfold fOr
  rw [h]
  exact h2
theorem andTT {r : Res Bool} (h : t s = .ok true) (h2 : u s = r) : fAndT t u s = r := by
  unfold fAndT
  rw [h]
  exact h2
theorem andTF (h : t s = .ok false) : fAndT t u s = .ok false := by
  unfold fAndT
  rw [h]
  rfl
theorem orTF {r : Res Bool} (h : t s = .ok false) (h2 : u s = r) : fOrT t u s = r := by
  unfold fOrT
  rw [h]
  exact h2
theorem callE {len : Nat} {f : FFn} {dds ds : List D} {r : Res D} (h : l s = .ok ds) (hl : (ds ++ dds).length = len) (h2 : f (ds ++ dds) = r) : fCall len f dds l s = r := by
  unfold fCall
  rw [h]
  show (if (ds ++ dds).length = len then _ else _) = _
  rw [if_pos hl]
  exact h2
theorem methE {C mn : Str} {len : Nat} {f : FFn} {dds ds : List D} {fs : List (Str × D)} {r : Res D} (ho : a s = .ok (.obj C fs)) (hn : fs.lookup mn = none) (h : l s = .ok ds) (hl : (D.obj C fs :: (ds ++ dds)).length = len) (h2 : f (.obj C fs :: (ds ++ dds)) = r) : fMeth C mn len f dds a l s = r := by
  unfold fMeth
  rw [ho]
  show (if C = C ∧ fs.lookup mn = none then _ else _) = _
  rw [if_pos ⟨rfl, hn⟩, h]
  show (if (D.obj C fs :: (ds ++ dds)).length = len then _ else _) = _
  rw [if_pos hl]
  exact h2
theorem fldE {C g : Str} {fs : List (Str × D)} (ho : a s = .ok (.obj C fs)) (h : fs.lookup g = some d) : fFld C g a s = .ok d := by
  unfold fFld
  rw [ho]
  show (if C = C then _ else _) = _
  rw [if_pos rfl, h]
  rfl
theorem lcE {i : FM (List D)} {hs : List Nat} {g : FG} {ds xs : List D} (h : i s = .ok ds) (hl : ds.length ≤ LIM) (h2 : fLcL g t a (hideL s hs) ds = .ok xs) : fLc i hs g t a s = .ok (.lst xs) := by
  unfold fLc
  rw [h]
  show (if ds.length ≤ LIM then _ else _) = _
  rw [if_pos hl, h2]
  rfl
theorem lcDE {p : Ev → Option D} {k : List (Key × D) → List D} {hs : List Nat} {g : FG} {kvs : List (Key × D)} {xs : List D} (h : p s = some (.dic kvs)) (hl : (k kvs).length ≤ LIM) (h2 : fLcL g t a (hideL s hs) (k kvs) = .ok xs) : fLcD p k hs g t a s = .ok (.lst xs) := by
  unfold fLcD
  rw [h]
  show (if (k kvs).length ≤ LIM then _ else _) = _
  rw [if_pos hl, h2]
  rfl
theorem dcE {i : FM (List D)} {hs : List Nat} {g : FG} {ds : List D} {xs : List (Key × D)} (h : i s = .ok ds) (hl : ds.length ≤ LIM) (h2 : fDcL g t a b (hideL s hs) ds [] = .ok xs) : fDc i hs g t a b s = .ok (.dic xs) := by
  unfold fDc
  rw [h]
  show (if ds.length ≤ LIM then _ else _) = _
  rw [if_pos hl, h2]
  rfl
theorem dgetE {kvs : List (Key × D)} {kk : Key} {kd : D} (h : a s = .ok (.dic kvs)) (h2 : b s = .ok kd) (hk : keyD kd = some kk) (h3 : c s = .ok d) : fDget a b c s = .ok ((lookK kvs kk).getD d) := by
  unfold fDget
  rw [h]
  show (b s).bind _ = _
  rw [h2]
  show (c s).bind _ = _
  rw [h3]
  show (ofO (keyD kd)).bind _ = _
  rw [hk]
  rfl
theorem iterE {ds : List D} (h : a s = .ok d) (h2 : dIter d = some ds) : fIter a s = .ok ds := by
  unfold fIter
  rw [h]
  show ofO (dIter d) = _
  rw [h2]
  rfl
end
/-! loops -/
theorem for_inv {g : FG} {b : FS} (I : Ev → Prop) : ∀ (ds : List D) (s : Ev), I s → (∀ d ∈ ds, ∀ s, I s → ∃ s1, g d s = some s1 ∧ ∃ s2, b s1 = .nx s2 ∧ I s2) → ∃ s', fForL g b ds s = .nx s' ∧ I s'
  | [], s, h, _ => ⟨s, rfl, h⟩
  | d :: ds, s, h, st => by
    obtain ⟨s1, e1, s2, e2, h2⟩ := st d List.mem_cons_self s h
    obtain ⟨s', e3, h3⟩ := for_inv I ds s2 h2 fun d hd => st d (List.mem_cons_of_mem _ hd)
    refine ⟨s', ?_, h3⟩
    rw [fForL, e1]
    show (match b s1 with | .nx s2 => fForL g b ds s2 | .ct s2 => fForL g b ds s2 | .bk s2 => .nx s2 | o => o) = _
    rw [e2]
    exact e3
/-- .. with what was walked already -/
theorem for_go {α : Type} {g : FG} {b : FS} (f : α → D) (I : List α → Ev → Prop) (L : List α) (st : ∀ acc d post s, acc ++ d :: post = L → I acc s → ∃ s1, g (f d) s = some s1 ∧ ∃ s2, b s1 = .nx s2 ∧ I (acc ++ [d]) s2) : ∀ (ds acc : List α) (s : Ev), acc ++ ds = L → I acc s → ∃ s', fForL g b (ds.map f) s = .nx s' ∧ I L s'
  | [], acc, s, e, h => ⟨s, rfl, by rw [List.append_nil] at e; rw [← e]; exact h⟩
  | d :: ds, acc, s, e, h => by
    obtain ⟨s1, e1, s2, e2, h2⟩ := st acc d ds s e h
    obtain ⟨s', e3, h3⟩ := for_go f I L st ds (acc ++ [d]) s2 (by rw [List.append_assoc]; exact e) h2
    refine ⟨s', ?_, h3⟩
    rw [List.map_cons, fForL, e1]
    show (match b s1 with | .nx s2 => fForL g b _ s2 | .ct s2 => fForL g b _ s2 | .bk s2 => .nx s2 | o => o) = _
    rw [e2]
    exact e3
theorem for_acc {α : Type} {g : FG} {b : FS} (f : α → D) (I : List α → Ev → Prop) (L : List α) {s : Ev} (h0 : I [] s) (st : ∀ acc d post s, acc ++ d :: post = L → I acc s → ∃ s1, g (f d) s = some s1 ∧ ∃ s2, b s1 = .nx s2 ∧ I (acc ++ [d]) s2) : ∃ s', fForL g b (L.map f) s = .nx s' ∧ I L s' := for_go f I L st L [] s rfl h0
theorem lc_filter {α : Type} {g : FG} {t : FM Bool} {e : FM D} {s0 : Ev} (f : α → D) (p : α → Bool) (v : α → D) : ∀ ds : List α, (∀ d ∈ ds, ∃ s1, g (f d) s0 = some s1 ∧ t s1 = .ok (p d) ∧ (p d = true → e s1 = .ok (v d))) → fLcL g t e s0 (ds.map f) = .ok ((ds.filter p).map v)
  | [], _ => rfl
  | d :: ds, h => by
    obtain ⟨s1, e1, e2, e3⟩ := h d List.mem_cons_self
    have ih := lc_filter f p v ds fun d hd => h d (List.mem_cons_of_mem _ hd)
    rw [List.map_cons, fLcL, e1]
    show (t s1).calm.bind _ = _
    rw [e2]
    show (if p d = true then _ else _) = _
    cases hp : p d with
    | false =>
      rw [if_neg (by decide), ih, List.filter_cons, hp]
      rfl
    | true =>
      rw [if_pos rfl, e3 hp, ih, List.filter_cons, hp]
      rfl
theorem lc_map {α : Type} {g : FG} {e : FM D} {s0 : Ev} (f : α → D) (v : α → D) (ds : List α) (h : ∀ d ∈ ds, ∃ s1, g (f d) s0 = some s1 ∧ e s1 = .ok (v d)) : fLcL g fYes e s0 (ds.map f) = .ok (ds.map v) := by
  have := lc_filter (g := g) (t := fYes) (e := e) (s0 := s0) f (fun _ => true) v ds fun d hd => by
    obtain ⟨s1, e1, e2⟩ := h d hd
    exact ⟨s1, e1, rfl, fun _ => e2⟩
  rw [this, List.filter_eq_self.mpr fun _ _ => rfl]
/-- a dict by a comprehension over unlike names -/
theorem dc_map {α β : Type} {g : FG} {k e : FM D} {s0 : Ev} (f : α → D) (kx : α → Str) (v : α → β) (vd : β → D) : ∀ (ds : List α) (acc : List (Str × β)), (acc.map (·.1) ++ ds.map kx).Nodup → (∀ d ∈ ds, ∃ s1, g (f d) s0 = some s1 ∧ k s1 = .ok (.str (kx d)) ∧ e s1 = .ok (vd (v d))) →
    fDcL g fYes k e s0 (ds.map f) (mapD vd acc) = .ok (mapD vd (acc ++ ds.map fun d => (kx d, v d)))
  | [], acc, _, _ => by rw [List.map_nil, List.map_nil, List.append_nil]; rfl
  | d :: ds, acc, hn, h => by
    obtain ⟨s1, e1, e2, e3⟩ := h d List.mem_cons_self
    have hd : kx d ∉ acc.map (·.1) := fun z => by
      rw [List.map_cons] at hn
      exact (List.nodup_append.mp hn).2.2 _ z _ List.mem_cons_self rfl
    rw [List.map_cons, fDcL, e1]
    show (k s1).calm.bind _ = _
    rw [e2]
    show (e s1).calm.bind _ = _
    rw [e3]
    show fDcL g fYes k e s0 (ds.map f) (putD (mapD vd acc) (.inr (kx d)) (vd (v d))) = _
    rw [put_new hd, dc_map f kx v vd ds (acc ++ [(kx d, v d)]) (by rw [List.map_append, List.append_assoc]; exact hn) fun d hd => h d (List.mem_cons_of_mem _ hd), List.append_assoc]
    rfl
end DL
namespace DL
open PySem PySem.Spec PyProof.Rows L2
variable [TabC]
/-! ### == and != of dicts, by data -/
def eqK (kvs more : List (Key × D)) : Bool := kvs.all fun p => match lookK more p.1 with
  | some d => pyEq p.2 d
  | none => false
def okK (kvs : List (Key × D)) : Bool := kvs.all fun p => okD p.2
theorem look_ok {kvs : List (Key × D)} {k : Key} {d : D} (h : okK kvs = true) (e : lookK kvs k = some d) : okD d = true := by
  unfold lookK at e
  cases z : kvs.find? fun kv => decide (kv.1 = k) with
  | none => rw [z] at e; cases e
  | some p =>
    rw [z] at e
    cases e
    exact List.all_eq_true.mp h p (List.mem_of_find?_eq_some z)
section
variable {X : Cx} {pins : List (Addr × Obj)} {σ : L2.St} {H : Hp} {s : Shared} {aS : Addr} {A : AS}
/-- two things by data, compared -/
theorem eqP_data (I : Inv X pins σ H s) {B : Around} {d e : D} {v u : V} {x y : Value} (hd : okD d = true) (he : okD e = true) (r1 : Rep X.K aS H A d v) (r2 : Rep X.K aS H A e u) (q1 : RelV v x) (q2 : RelV u y) (hu : B.units + 64 < cLine) : SeqAt.EqP X.prog X.w B s x y (pyEq d e) := by
  obtain ⟨as, z1⟩ := Dp.reads I _ _ _ (Rep.dp d v (okD_lay hd) r1) q1
  obtain ⟨bs, z2⟩ := Dp.reads I _ _ _ (Rep.dp e u (okD_lay he) r2) q2
  have m : B.units + min (toPD d).depth (toPD e).depth < cLine := by
    unfold okD SeqAt.shaped at hd
    have := of_decide_eq_true (Bool.and_eq_true_iff.mp hd).2
    omega
  exact fun E Q q => SeqAt.eqAt_reads _ _ B s x y as bs z1 z2 (okD_lay hd) (okD_lay he) m _ _ E Q q
theorem hits_data (I : Inv X pins σ H s) {B : Around} (hu : B.units + 64 < cLine) {more : List (Key × D)} {ls : List (Key × V)} {vb : List (Key × Value)} (om : okK more = true) (rm : RepK X.K aS H A more ls) (rb : KV ls vb) :
    ∀ (kvs : List (Key × D)) (ks : List (Key × V)) (va : List (Key × Value)), okK kvs = true → RepK X.K aS H A kvs ks → KV ks va → PySem.W.KeqHitsP X.prog X.w B s vb va (eqK kvs more)
  | [], ks, va, _, r, ra => by
    rw [RepK] at r
    subst r
    cases ra
    exact .nil
  | (k, d) :: kvs, ks, va, ok, r, ra => by
    rw [RepK] at r
    obtain ⟨v, vr, e, r1, q⟩ := r
    subst e
    cases ra with
    | @cons p qv ps qs h t =>
      obtain ⟨h1, h2⟩ := h
      obtain ⟨key, x⟩ := qv
      have h1 : k = key := h1
      subst h1
      have h2 : RelV v x := h2
      have ok1 : okD d = true := (Bool.and_eq_true_iff.mp (show (okD d && okK kvs) = true from ok)).1
      have ok2 : okK kvs = true := (Bool.and_eq_true_iff.mp (show (okD d && okK kvs) = true from ok)).2
      have rr : RelO (valV ls k) (valueAt vb k) := rb.val k
      have unf : eqK ((k, d) :: kvs) more = ((match lookK more k with | some d' => pyEq d d' | none => false) && eqK kvs more) := rfl
      rw [unf]
      rcases rm.val k with ⟨z1, z2⟩ | ⟨d', v', z1, z2, z3⟩
      · rw [z2] at rr
        rw [z1]
        exact .miss (by cases hv : valueAt vb k with | none => rfl | some y => rw [hv] at rr; cases rr)
      · rw [z2] at rr
        obtain ⟨y, hy, ry⟩ := rr.some_of
        rw [z1]
        exact .hit hy (eqP_data I ok1 (look_ok om z1) r1 z3 h2 ry hu) (hits_data I hu om rm rb kvs vr qs ok2 q t)
end
/-- == with dicts -/
def dEqX (a b : D) : Option D := match a, b with
  | .dic kvs, .dic more => if (okK kvs && okK more) = true then some (.bl (kvs.length == more.length && eqK kvs more)) else none
  | a, b => dEq a b
theorem RepK.len {K : PySem.W.Frag} {aS : Addr} {H : Hp} {A : AS} : ∀ {ds : List (Key × D)} {vs : List (Key × V)}, RepK K aS H A ds vs → vs.length = ds.length
  | [], vs, h => by rw [RepK] at h; rw [h]; rfl
  | (k, d) :: ds, vs, h => by
    rw [RepK] at h
    obtain ⟨v, vr, e, _, q⟩ := h
    rw [e, List.length_cons, List.length_cons, RepK.len q]
def rDic (K : PySem.W.Frag) (f : Bool → Bool) : R2 := fun x y H Q => ∃ (aS : Addr) (A : AS) (a b : Addr) (kvs more : List (Key × D)) (ks ls : List (Key × V)), x = .ref a ∧ y = .ref b ∧ Rd H a (.dK ks) ∧ Rd H b (.dK ls) ∧ RepK K aS H A kvs ks ∧ RepK K aS H A more ls ∧ okK kvs = true ∧ okK more = true ∧ Q (.bl (f (kvs.length == more.length && eqK kvs more))) H
section
variable {X : Cx}
theorem op_eqDic (hu : X.A.units + 66 < cLine) : OpR X (compareOp .Eq) (rDic X.K id) := by
  intro pins s σ H x y v u Q I rx ry h
  obtain ⟨aS, A, a, b, kvs, more, ks, ls, rfl, rfl, ha, hb, r1, r2, o1, o2, q⟩ := h
  cases (show v = Value.ref a from rx)
  cases (show u = Value.ref b from ry)
  obtain ⟨_, ya, va, ra, da⟩ := (show ObjOk X.prog X.w H s.heap a (.dK ks) from ha.ok I.hok)
  obtain ⟨_, yb, vb, rb, db⟩ := (show ObjOk X.prog X.w H s.heap b (.dK ls) from hb.ok I.hok)
  refine PySem.W.rcP_dicts (knd := mixKind X.prog X.w) (r := eqK kvs more) ya yb da db (by omega) (fun _ => hits_data I (B := X.A.in1) (by show X.A.units + 1 + 64 < cLine; omega) o2 r2 rb kvs ks va o1 r1 ra) _ _ ?_
  rw [← ra.length, ← rb.length, r1.len, r2.len]
  exact ⟨.bl _, H, I, rfl, q⟩
end
end DL
namespace DL
open PySem PySem.Spec PyProof.Rows L2 PySem.Calls PyProof.V
variable [TabC]
section
variable {prog : Program} {w : World} {K : Type} [DecidableEq K] {knd : PySem.KeyKind prog w K} {A : Around} {s : Shared}
theorem rc_ne {a b : Addr} {ka kb : List (K × Value)} {r : Bool} (ha : (a == sysModules) = false) (hb : (b == sysModules) = false) (da : s.heap.DictOf knd a ka) (db : s.heap.DictOf knd b kb) (hu : A.units < cLine)
    (hits : ka.length = kb.length → PySem.W.KeqHitsP prog w A.in1 s kb ka r) (E Q : Value → Shared → Prop) (h : Q (.bool (!(ka.length == kb.length && r))) s) : wpAny (model prog w) A (richCompare .NotEq (.ref a) (.ref b)) Q E s := by
  refine wpAny_richCompare_same_room (op := .NotEq) da.typeIs db.typeIs PySem.F.slot_dict_ne (wpAny_call_entry PySem.F.slot_dict_ne da.typeIs PySem.F.entry_dict_ne ?_ (PySem.F.args_dict_ne_2 _ _)) hu
  show wpAny _ _ (Builtin.Dict.dictSlotArgs "__ne__" ⟨[.ref a, .ref b], []⟩ >>= _) _ _ s
  refine wpAny_bind ?_; unfold Builtin.Dict.dictSlotArgs
  refine wpAny_bind (wpAny_notOrdered_dict da.typeIs (show wpAny _ _ (pure (Value.ref a, Value.ref b)) _ _ s from wpAny_pure (wpAny_bind (wpAny_isInstance (T := "dict") db.typeIs PySem.F.sub_dict_dict ?_))))
  simp only [Bool.not_true, Bool.false_eq_true, if_false]
  refine wpAny_bind (wpAny_pure (wpAny_bind (wpAny_pure (wpAny_bind (PySem.W.samePairsP ha hb da db hits (wpAny_pure ⟨_, rfl, ⟨(fun x => nomatch x), ?_⟩⟩))))))
  cases hz : (ka.length == kb.length && r) <;> rw [hz] at h <;> exact h
end
section
variable {X : Cx}
theorem op_neDic (hu : X.A.units + 66 < cLine) : OpR X (compareOp .NotEq) (rDic X.K not) := by
  intro pins s σ H x y v u Q I rx ry h
  obtain ⟨aS, A, a, b, kvs, more, ks, ls, rfl, rfl, ha, hb, r1, r2, o1, o2, q⟩ := h
  cases (show v = Value.ref a from rx)
  cases (show u = Value.ref b from ry)
  obtain ⟨_, ya, va, ra, da⟩ := (show ObjOk X.prog X.w H s.heap a (.dK ks) from ha.ok I.hok)
  obtain ⟨_, yb, vb, rb, db⟩ := (show ObjOk X.prog X.w H s.heap b (.dK ls) from hb.ok I.hok)
  refine rc_ne (knd := mixKind X.prog X.w) (r := eqK kvs more) ya yb da db (by omega) (fun _ => hits_data I (B := X.A.in1) (by show X.A.units + 1 + 64 < cLine; omega) o2 r2 rb kvs ks va o1 r1 ra) _ _ ?_
  rw [← ra.length, ← rb.length, r1.len, r2.len]
  exact ⟨.bl _, H, I, rfl, q⟩
theorem Room.u66 {k : Nat} {A : Around} (h : Room k A) : A.units + 66 < cLine := by have := h.un; omega
def dNeX (a b : D) : Option D := match a, b with
  | .dic kvs, .dic more => if (okK kvs && okK more) = true then some (.bl (!(kvs.length == more.length && eqK kvs more))) else none
  | a, b => dNe a b
theorem od_eqX (hu : X.A.units + 66 < cLine) : OpD X (compareOp .Eq) dEqX := by
  obtain ⟨r0, h0, k0⟩ := od_eq (X := X) (by omega)
  refine ⟨_, OpR.or (op_eqDic hu) h0, fun aS H A n d1 d2 d v1 v2 Q c r1 r2 e w => ?_⟩
  unfold dEqX at e
  split at e
  · split at e
    · rename_i kvs more h
      cases e
      obtain ⟨o1, o2⟩ := Bool.and_eq_true_iff.mp h
      obtain ⟨a, ks, e1, _, g1, q1⟩ := r1
      obtain ⟨b, ls, e2, _, g2, q2⟩ := r2
      exact .inl ⟨aS, A, a, b, kvs, more, ks, ls, e1, e2, g1, g2, q1, q2, o1, o2, w _ _ KpS.refl c.st rep_bl⟩
    · cases e
  · exact .inr (k0 aS H A n d1 d2 d v1 v2 Q c r1 r2 e w)
theorem od_neX (hu : X.A.units + 66 < cLine) : OpD X (compareOp .NotEq) dNeX := by
  obtain ⟨r0, h0, k0⟩ := od_ne (X := X) (by omega)
  refine ⟨_, OpR.or (op_neDic hu) h0, fun aS H A n d1 d2 d v1 v2 Q c r1 r2 e w => ?_⟩
  unfold dNeX at e
  split at e
  · split at e
    · rename_i kvs more h
      cases e
      obtain ⟨o1, o2⟩ := Bool.and_eq_true_iff.mp h
      obtain ⟨a, ks, e1, _, g1, q1⟩ := r1
      obtain ⟨b, ls, e2, _, g2, q2⟩ := r2
      exact .inl ⟨aS, A, a, b, kvs, more, ks, ls, e1, e2, g1, g2, q1, q2, o1, o2, w _ _ KpS.refl c.st rep_bl⟩
    · cases e
  · exact .inr (k0 aS H A n d1 d2 d v1 v2 Q c r1 r2 e w)
end
end DL
namespace DL
open PySem PySem.Spec PyProof.Rows L2
variable [TabC]
/-! x + y, x & y, x | y by an own method of x's class -/
section
variable {X : Cx} {CX : CXT} {C f : Addr} {fd : FuncData} {ps : List Str} {sp : Sp} {E : XK} {k : Nat} {op : Operator}
theorem run_in0 {pins : List (Addr × Obj)} {σ : L2.St} {H : Hp} {s : Shared} {Q : VK} {us : List Value} {vs : List V} (F : FnOk X.prog X.w X.K X.mg X.base CX k f fd ps sp) (hr : Room k X.A) (hb : Binds X.K fd ps []) (hx : Passes CX X E)
    (I : L2.Inv X pins σ H s) (r : Vals vs us) (h : sp vs H Q E) : wpAny (model X.prog X.w) X.A (call (.ref f) us) (EP X pins σ Q) X.xe s := by
  have hl : us.length = ps.length := by rw [← r.length]; exact F.len _ _ _ _ h
  have bd := hb s us I.kIn (by rw [List.append_nil]; exact hl)
  rw [List.append_nil] at bd
  refine wpAny_call (codeAny_mono (F.run X.A X.stack s H ⟨us, []⟩ us vs Q E hr I.env0 bd r h) fun r s' hq => ?_)
  cases r with
  | error x => exact hx pins σ H s x s' I hq
  | ok fl =>
    cases fl with
    | ret u => exact I.after hq
    | _ => exact False.elim hq
theorem ep_back {pins : List (Addr × Obj)} {σ : L2.St} {Q : VK} {v : Value} {s : Shared} (h : EP X pins σ Q v s) : PySem.W.CmpBack (EP X pins σ Q) v s := by
  obtain ⟨x, H, I, r, q⟩ := h
  cases v with
  | notImplemented => cases x <;> first | (obtain ⟨_, r⟩ := r; cases r; done) | (cases r; done)
  | _ => exact ⟨x, H, I, r, q⟩
def rOwn (C : Addr) (sp : Sp) (E : XK) : R2 := fun x y H Q => (∃ a dx fs, x = .ref a ∧ H a = some (.ins C dx fs)) ∧ (∃ b dy gs, y = .ref b ∧ H b = some (.ins C dy gs)) ∧ sp [x, y] H Q E
/-- x == y by an own __eq__, both of one class -/
theorem op_ownEq (M : Meth X.K C "__eq__" f) (F : FnOk X.prog X.w X.K X.mg X.base CX k f fd ps sp) (hr : Room k X.A) (hb : Binds X.K fd ps []) (hx : Passes CX X E) : OpR X (compareOp .Eq) (rOwn C sp E) := by
  intro pins s σ H x y v u Q I rx ry h
  obtain ⟨⟨a, dx, fs, rfl, ha⟩, ⟨b, dy, gs, rfl, hb'⟩, h⟩ := h
  cases rx
  cases ry
  obtain ⟨mA, J, _⟩ := ins_get I.hok ha
  obtain ⟨mB, J', _⟩ := ins_get I.hok hb'
  obtain ⟨od, J, _⟩ := J.look
  obtain ⟨od', J', _⟩ := J'.look
  obtain ⟨m, hF⟩ := I.fr
  have rr : Vals [V.ref a, V.ref b] [Value.ref a, Value.ref b] := .cons rfl (.cons rfl .nil)
  show wpAny (model X.prog X.w) X.A (richCompare .Eq _ _) (EP X pins σ Q) X.xe s
  exact PySem.W.cmp_K (op := .Eq) (tb := .ref C) hr.units0 hF I.ok.mod.kin J J'.type (by simp [PySem.W.notFirst]) M.at_ M.fn (wpAny_mono (run_in0 F hr hb hx I rr h) (fun _ _ q => ep_back q) fun _ _ z => z)
end
/-- a binary operator of an own class -/
def GOp (P : Program) (w : World) (K : PySem.W.Frag) (mg : Str → Option Value) (base : Heap) (C : Str) (m : Str) (k : Nat) (ps : List Str) (L : Sp) : Prop := ∃ f fd, Meth K (He.ga K C) m f ∧ PySem.W.selfFirst K (He.ga K C) = true ∧ Binds K fd ps [] ∧ FnOk P w K mg base (CX P w) k f fd ps L
def eOwB (C : Str) (sp : FSp) (mo me : EM D) : EM D := fun xq s n Q => mo xq s n fun d n1 => me xq s n1 fun y n2 => (∃ fs, d = .obj C fs) ∧ (∃ gs, y = .obj C gs) ∧ sp.run [d, y] n2 Q xq
section
variable {X : Cx} {E : XK} {O : List Nat} {a b : Expr} {mo me : EM D} {pos : Pos} {C : Str} {ps : List Str} {k k' : Nat} {sp : FSp} {op : Operator}
theorem own_core {C : Str} {sp : FSp} {mo me : EM D} {ta tb : TE} {aS : Addr} {A0 : A0T} {H0 : Hp} {σ : L2.St} {H : Hp} {s : Ev} {n : Nat} {xq : XQ} {Q : VK} (mn1 : Mn mo) (mn2 : Mn me)
    (f1 : ∀ (aS : Addr) (A0 : A0T) (H0 : Hp) (σ : L2.St) (H : Hp) (s : Ev) (n : Nat) (xq : XQ) (Q : VK), SR X.K aS O A0 H0 σ H s n → LX X.K E aS A0 H0 xq → mo xq s n (fun d n' => ∀ v H', KpS aS H H' → StA X.K aS H' n' → Rep X.K aS H' (AV aS A0 O σ) d v → Q v H') → ta σ H Q)
    (f2 : ∀ (aS : Addr) (A0 : A0T) (H0 : Hp) (σ : L2.St) (H : Hp) (s : Ev) (n : Nat) (xq : XQ) (Q : VK), SR X.K aS O A0 H0 σ H s n → LX X.K E aS A0 H0 xq → me xq s n (fun d n' => ∀ v H', KpS aS H H' → StA X.K aS H' n' → Rep X.K aS H' (AV aS A0 O σ) d v → Q v H') → tb σ H Q)
    (S : SR X.K aS O A0 H0 σ H s n) (L : LX X.K E aS A0 H0 xq) (hm : eOwB C sp mo me xq s n (fun d n' => ∀ v H', KpS aS H H' → StA X.K aS H' n' → Rep X.K aS H' (AV aS A0 O σ) d v → Q v H')) :
    tOp (rOwn (He.ga X.K C) (lift X.K 2 sp) E) ta tb σ H Q := by
  refine f1 aS A0 H0 σ H s n xq _ S L (mn1 _ _ _ _ _ (fun d n1 q v H1 k1 st1 r1 => ?_) hm)
  refine f2 aS A0 H0 σ H1 s n1 xq _ (S.step k1 st1) L (mn2 _ _ _ _ _ (fun y n2 q2 u H2 k2 st2 r2 => ?_) q)
  obtain ⟨⟨fs, ed⟩, ⟨gs, ey⟩, q2⟩ := q2
  subst ed
  subst ey
  have r3 := r1.kp k2 st1 AV.st
  have r4 := r3
  have r5 := r2
  rw [Rep] at r4 r5
  obtain ⟨a, dx, ys, ev, na, hq, rf⟩ := r4
  obtain ⟨b, dy, zs, eu, nb, hq', rf'⟩ := r5
  have kk := k1.trans k2
  exact ⟨⟨a, dx, ys, ev, hq⟩, ⟨b, dy, zs, eu, hq'⟩, (S.step kk st2).call L rfl (RepL.cons r3 (RepL.cons r2 RepL.nil)) (sp.mn _ _ _ _ _ (fun d n' w v H' kp st r => w v H' (kk.trans kp) st r) q2)⟩
theorem mn_owB (mn1 : Mn mo) (mn2 : Mn me) : Mn (eOwB C sp mo me) := fun xq s n Q Q' hq w => mn1 _ _ _ _ _ (fun d n1 w => mn2 _ _ _ _ _ (fun y n2 w => ⟨w.1, w.2.1, sp.mn _ _ _ _ _ hq w.2.2⟩) w) w
theorem ve_ownEq (tk : TK X E) (hl : ps.length = 2) (G : GOp X.prog X.w X.K X.mg X.base C "__eq__" k ps (lift X.K 2 sp)) (hr : Room k' X.A) (hk : k ≤ k') (ho : VE X E O a mo) (he : VE X E O b me) (hm : behindInMarks .Eq b = false) : VE X E O (.Compare a [.Eq] [b] pos) (eOwB C sp mo me) := by
  obtain ⟨f, fd, h1, h2, h3, h4⟩ := G
  obtain ⟨mn1, t1, p1, f1⟩ := ho
  obtain ⟨mn2, t2, p2, f2⟩ := he
  exact ⟨mn_owB mn1 mn2, _, pe_cmpR (op_ownEq h1 h4 (DL.Room.le hr hk) h3 (passes_call tk fun _ _ _ _ h => h)) p1 p2 hm, fun aS A0 H0 σ H s n xq Q S L hm => own_core mn1 mn2 f1 f2 S L hm⟩
end
end DL
namespace DL
open PySem PySem.Spec PyProof.Rows L2
/-! x != y by an own __eq__ alone -/
section
variable {prog : Program} {w : World} {A : Around} {E : Value → Shared → Prop} {s : Shared} {K : PySem.W.Frag} {x C L f : Addr} {b : Value} {h₀ : Heap} {m : Str → Option Value} {ox : Obj} {od : Option Obj}
theorem on_bind (self : Value) : bindSpecial (.builtin "object.__ne__") self = pure (.builtin "object.__ne__", [self]) :=
  (Slot.of (T := "object") (name := "__ne__") (owner := "object") (n := "__ne__") (by rw [typeLookup_type, builtinLookup_eq_fast]; kernel_rfl) (by decide +kernel) (by decide +kernel) (by decide +kernel)
    (.inl (by decide +kernel)) (by rw [isSubtype_type]; kernel_rfl)).bind self
theorem on_entry {Q : Fin → Shared → Prop} (hu : A.units < cLine) (X : K.In s.heap) (I : PySem.W.InstAt s.heap x ox C od) (he : PySem.W.findIn K (.ref C) "__eq__" = some (some (.ref f))) (hf : PySem.W.isFn K (.ref f) = true)
    (h : wpAny (model prog w) A (call (.ref f) [.ref x, b]) (fun v s' => ∃ c, v = .bool c ∧ Q (.done (.ret (.bool (!c)))) s') E s) : wpAny (model prog w) A (Builtin.«object.__ne__» ⟨[.ref x, b], []⟩) Q E s := by
  unfold Builtin.«object.__ne__»
  refine wpAny_bind (wpAny_pure ?_)
  refine wpAny_bind (wpAny_cRoomFor hu ?_)
  refine wpAny_bind (PySem.W.ifBound_K X I he hf (wpAny_mono h (fun v s' hv => ?_) fun _ _ e => e))
  obtain ⟨c, rfl, hq⟩ := hv
  exact wpAny_bind (wpAny_truthy_bool (wpAny_pure hq))
theorem ne_own {Q : Value → Shared → Prop} (hu : A.units + 1 < cLine) (X : K.In s.heap) (I : PySem.W.InstAt s.heap x ox C od) (hb : PySem.W.Looks (model prog w) s.heap (typeOf b) (.ref C))
    (hn : PySem.W.findIn K (.ref C) "__ne__" = some (some (.builtin "object.__ne__"))) (he : PySem.W.findIn K (.ref C) "__eq__" = some (some (.ref f))) (hf : PySem.W.isFn K (.ref f) = true) (hm : PySem.W.mroIn K C (.type "object") = some true)
    (h : wpAny (model prog w) A.in1 (call (.ref f) [.ref x, b]) (fun v s' => ∃ c, v = .bool c ∧ Q (.bool (!c)) s') E s) : wpAny (model prog w) A (richCompare .NotEq (.ref x) b) Q E s := by
  have hi : PySem.W.Looks (model prog w) s.heap (isInstance (.ref x) (.type "object")) true := I.type.andThen (PySem.W.looks_mroIn X hm)
  have one : wpAny (model prog w) A (tryCompare (.ref x) (cmpInfo .NotEq).2.1 b) (fun r s' => ∃ v, r = some v ∧ Q v s') E s := by
    unfold tryCompare
    refine wpAny_bind ?_
    simp only [callSpecialIfBound?, bindSpecialIfBound?]
    refine wpAny_holding (wpAny_bind (wpAny_bind (wpAny_bind (I.type.here ((PySem.W.looks_findIn X hn).here ?_)))))
    simp only [on_bind]
    have fin : ∀ R : Option Value → Shared → Prop, (∀ c s', Q (.bool (!c)) s' → R (some (.bool (!c))) s') → wpAny (model prog w) A (call (.builtin "object.__ne__") ([.ref x] ++ [b]) >>= fun v => pure (some v)) R E s := fun R hR => by
      refine wpAny_bind (wpAny_call (codeAny_call_builtin (by decide +kernel) PySem.F.cmpEntry_ne (PySem.W.check_slot PySem.F.cmpKind_ne PySem.F.cmpSplit_ne hi (PySem.F.cmpArgs_ne _ _) (on_entry (A := A.in1) hu X I he hf (wpAny_mono h (fun v s' hv => ?_) fun _ _ e => e)))))
      obtain ⟨c, rfl, hq⟩ := hv
      exact ⟨c, rfl, wpAny_pure (hR c _ hq)⟩
    refine wpAny_bind (wpAny_askSetting (wpAny_ite ?_))
    split
    · exact wpAny_bind (wpAny_pure (wpAny_pure (fin _ fun c s' hq => wpAny_pure ⟨_, rfl, hq⟩)))
    · exact wpAny_tryCatch (wpAny_bind (wpAny_pure (wpAny_pure (fin _ fun c s' hq => wpAny_pure ⟨_, rfl, hq⟩))))
  unfold richCompare
  simp only [oneThing_ref]
  refine wpAny_holding (wpAny_bind (wpAny_cRoomFor (Nat.lt_of_succ_lt hu) ?_))
  refine wpAny_bind (I.type.here (wpAny_bind (hb.here ?_)))
  split
  · rename_i q
    simp at q
  · refine wpAny_bind (wpAny_pure ?_)
    simp only [Bool.false_eq_true, if_false]
    refine wpAny_bind (wpAny_mono one (fun r s' z => ?_) fun _ _ e => e)
    obtain ⟨v, rfl, hq⟩ := z
    exact wpAny_pure hq
end
variable [TabC]
/-- a class with == of its own, and the rest from object -/
structure NeOk (K : PySem.W.Frag) (C : Addr) : Prop where
  ne : PySem.W.findIn K (.ref C) "__ne__" = some (some (.builtin "object.__ne__"))
  mro : PySem.W.mroIn K C (.type "object") = some true
section
variable {X : Cx} {CX : CXT} {C f : Addr} {fd : FuncData} {ps : List Str} {sp : Sp} {E : XK} {k : Nat}
def rOwnNe (C : Addr) (sp : Sp) (E : XK) : R2 := fun x y H Q => (∃ a dx fs, x = .ref a ∧ H a = some (.ins C dx fs)) ∧ (∃ b dy gs, y = .ref b ∧ H b = some (.ins C dy gs)) ∧ sp [x, y] H (fun v H' => ∃ c, v = .bl c ∧ Q (.bl (!c)) H') E
theorem op_ownNe (M : Meth X.K C "__eq__" f) (N : NeOk X.K C) (F : FnOk X.prog X.w X.K X.mg X.base CX k f fd ps sp) (hr : Room (k + 1) X.A) (hb : Binds X.K fd ps []) (hx : Passes CX X E) : OpR X (compareOp .NotEq) (rOwnNe C sp E) := by
  intro pins s σ H x y v u Q I rx ry h
  obtain ⟨⟨a, dx, fs, rfl, ha⟩, ⟨b, dy, gs, rfl, hb'⟩, h⟩ := h
  cases rx
  cases ry
  obtain ⟨mA, J, _⟩ := ins_get I.hok ha
  obtain ⟨mB, J', _⟩ := ins_get I.hok hb'
  obtain ⟨od, J, _⟩ := J.look
  obtain ⟨od', J', _⟩ := J'.look
  have rr : Vals [V.ref a, V.ref b] [Value.ref a, Value.ref b] := .cons rfl (.cons rfl .nil)
  show wpAny (model X.prog X.w) X.A (richCompare .NotEq _ _) (EP X pins σ Q) X.xe s
  refine ne_own hr.in1.units0 I.kIn J J'.type N.ne M.at_ M.fn N.mro (wpAny_mono (run_in1 F hr hb hx I rr h) (fun v s' q => ?_) fun _ _ z => z)
  obtain ⟨z, H', I', r, c, rfl, q⟩ := q
  cases r
  exact ⟨c, rfl, .bl (!c), H', I', rfl, q⟩
end
end DL
namespace DL
open PySem PySem.Spec PyProof.Rows L2
variable [TabC]
def eOwNe (C : Str) (sp : FSp) (mo me : EM D) : EM D := fun xq s n Q => mo xq s n fun d n1 => me xq s n1 fun y n2 => (∃ fs, d = .obj C fs) ∧ (∃ gs, y = .obj C gs) ∧ sp.run [d, y] n2 (fun r n' => ∃ c, r = .bl c ∧ Q (.bl (!c)) n') xq
section
variable {X : Cx} {E : XK} {O : List Nat} {a b : Expr} {mo me : EM D} {pos : Pos} {C : Str} {ps : List Str} {k k' : Nat} {sp : FSp} {op : Operator}
end
section
variable {a b o : FM D}
def fOwB (C : Str) (f : FFn) (o a : FM D) : FM D := fun s => (o s).bind fun d => (a s).bind fun y => match d, y with
  | .obj C1 fs, .obj C2 gs => if C1 = C ∧ C2 = C then f [d, y] else .bad
  | _, _ => .bad
theorem le_owB {C : Str} {f : FFn} : ∀ xq s n Q, up (fOwB C f o a) xq s n Q → eOwB C (FSp.of f) (up o) (up a) xq s n Q := fun xq s n Q h => by
  unfold eOwB up
  refine wp_mono (fun d h => wp_mono (fun y h => ?_) (wp_bind h)) (wp_bind h)
  cases d with
  | obj C1 fs =>
    cases y with
    | obj C2 gs =>
      obtain ⟨e, h⟩ := wp_dec h
      exact ⟨⟨fs, by rw [e.1]⟩, ⟨gs, by rw [e.2]⟩, h⟩
    | _ => exact h.elim
  | _ => exact h.elim
def notD : D → Res D
  | .bl c => .ok (.bl (!c))
  | _ => .bad
def fOwNe (C : Str) (f : FFn) (o a : FM D) : FM D := fun s => (o s).bind fun d => (a s).bind fun y => match d, y with
  | .obj C1 fs, .obj C2 gs => if C1 = C ∧ C2 = C then (f [d, y]).bind notD else .bad
  | _, _ => .bad
theorem le_owNe {C : Str} {f : FFn} : ∀ xq s n Q, up (fOwNe C f o a) xq s n Q → eOwNe C (FSp.of f) (up o) (up a) xq s n Q := fun xq s n Q h => by
  unfold eOwNe up
  refine wp_mono (fun d h => wp_mono (fun y h => ?_) (wp_bind h)) (wp_bind h)
  cases d with
  | obj C1 fs =>
    cases y with
    | obj C2 gs =>
      obtain ⟨e, h⟩ := wp_dec h
      refine ⟨⟨fs, by rw [e.1]⟩, ⟨gs, by rw [e.2]⟩, ?_⟩
      have h2 : (f [D.obj C1 fs, D.obj C2 gs]).wp xq n (fun r n' => ∃ c, r = D.bl c ∧ Q (D.bl (!c)) n') := wp_mono (fun r h => by
        cases r with
        | bl c => exact ⟨c, rfl, h⟩
        | _ => exact h.elim) (wp_bind h)
      exact h2
    | _ => exact h.elim
  | _ => exact h.elim
end
end DL
namespace DL
open PySem PySem.Spec PyProof.Rows L2
variable [TabC]
/-! ### dicts with texts and tuples as keys -/
section
variable {K : PySem.W.Frag} {aS : Addr} {H H' : Hp} {A : AS}
end
section
variable {X : Cx} {E : XK} {O OL : List Nat} {a b e ix : Expr} {ma mb m mk : EM D} {pos : Pos} {i : Nat}
end
/-! flat forms -/
end DL
namespace DL
open PySem PySem.Spec PyProof.Rows L2
variable [TabC]
/-! ### set(xs) of a list or tuple of texts and numbers; len of it -/
section
variable {κ : Type} [DecidableEq κ]
end
section
variable {P : Program} {w : World} {A : Around} {R : Result → Shared → Prop} {I : Addr} {fp wr : List Addr} {G : Array GenState → Array GenState → Prop} {n : Nat} {Pv : Nat → Value → Prop} {St : Nat → Shared → Prop}
end
section
variable {P : Program} {w : World} {A : Around} {E : Value → Shared → Prop} {s : Shared}
end
section
variable {X : Cx}
end
section
variable {X : Cx} {E : XK} {O : List Nat} {a : Expr} {m : EM D} {p p2 q pos : Pos}
end
end DL
namespace DL
open PySem PySem.Spec PyProof.Rows L2
open PySem.SeqAt PySem.AutoSeq1 PySem.MeetsSeq PySem.MeetsSeq2 PySem.MeetsSeq3 PySem.SeqRoads2
variable [TabC]
/-! ### x in a list of dicts -/
section
variable {prog : Program} {w : World}
end
section
variable {X : Cx} {pins : List (Addr × Obj)} {σ : L2.St} {H : Hp} {s : Shared} {aS : Addr} {A : AS}
end
section
variable {X : Cx} {pins : List (Addr × Obj)} {σ : L2.St} {H : Hp} {s : Shared} {aS : Addr} {A : AS}
end
section
variable {X : Cx}
end
end DL
namespace DL
open PySem PySem.Spec PyProof.Rows L2
variable [TabC]
abbrev N_is_name : List Str := ["thing", "sign"]
def B_is_name : FS :=
  (fSeq (fIfS (fOrT (fNotT (fVal (fBlt dIsi (fCons (fVar 0) (fCons (fC (.raw (.ty "str"))) fNil))))) (fOrT (fBinT dEq (fVar 0) (fC (.str "clock"))) (fNotT (fChainT dLe dLe (fC (.int 1)) (fBlt dLen (fCons (fVar 0) fNil)) (fC (.int 8)))))) (fRet (fC (.bl false))) fNilS) (fRet (fBlt dAll (fCons (fLc (fIter (fVar 0)) [1] (fgNm 1) fYes (fBin dIn (fVar 1) (fC (.str "abcdefghijklmnopqrstuvwxyz")))) fNil))))
def f_is_name : FFn := runB N_is_name B_is_name
abbrev N_is_list : List Str := ["thing"]
def B_is_list : FS :=
  (fRet (fBlt dIsi (fCons (fVar 0) (fCons (fTup (fCons (fC (.raw (.ty "list"))) (fCons (fC (.raw (.ty "tuple"))) fNil))) fNil))))
def f_is_list : FFn := runB N_is_list B_is_list
abbrev N_rising : List Str := ["things", "found", "thing", "one"]
def b_rising_1 : FS := (fIns 1 (fCons (fBlt dLen (fCons (fLc (fOwnL 1) ([3] ++ [1]) (fgNm 3) (fBinT dLe (fVar 3) (fVar 2)) (fVar 3)) fNil)) (fCons (fVar 2) fNil)))
def B_rising : FS :=
  (fSeq (fSetF 1 (fLst fNil)) (fSeq (fFor (fIter (fVar 0)) (fgNm 2) (b_rising_1)) (fRet (fVar 1))))
def f_rising : FFn := runB N_rising B_rising
abbrev N_is_among : List Str := ["thing", "names"]
def B_is_among : FS :=
  (fRet (fAnd (fBlt dIsi (fCons (fVar 0) (fCons (fC (.raw (.ty "str"))) fNil))) (fBin dIn (fVar 0) (fVar 1))))
def f_is_among : FFn := runB N_is_among B_is_among
abbrev N_frozen : List Str := ["thing", "one"]
def B_frozen (sf : FFn) : FS :=
  (fRet (fIf (fVal (fCall 1 f_is_list [] (fCons (fVar 0) fNil))) (fBlt dTuple (fCons (fLc (fIter (fVar 0)) [1] (fgNm 1) fYes (fCall 1 sf [] (fCons (fVar 1) fNil))) fNil)) (fVar 0)))
def r_frozen : Nat → FFn
  | 0 => fun _ => .bad
  | k + 1 => runB N_frozen (B_frozen (r_frozen k))
abbrev N_is_anchor : List Str := ["thing", "names"]
def B_is_anchor : FS :=
  (fRet (fOr (fBin dEq (fVar 0) (fC (.str "clock"))) (fBin dIn (fVar 0) (fBlt dList (fCons (fVar 1) fNil)))))
def f_is_anchor : FFn := runB N_is_anchor B_is_anchor
abbrev N_way_up : List Str := ["anchors", "name", "found", "here"]
def b_way_up_1 : FS := (fSeq (fApp 2 (fVar 3)) (fSet 3 (fDget (fVar 0) (fVar 3) (fC (.str "clock")))))
def B_way_up : FS :=
  (fSeq (fSetF 2 (fLst fNil)) (fSeq (fSet 3 (fDget (fVar 0) (fVar 1) (fC (.str "clock")))) (fSeq (fWhile (fAndT (fBinT dNe (fVar 3) (fC (.str "clock"))) (fBinT dNotIn (fVar 3) (fVar 2))) (b_way_up_1)) (fRet (fVar 2)))))
def f_way_up : FFn := runB N_way_up B_way_up
abbrev N_round_from : List Str := ["anchors", "name", "found"]
def b_round_from_1 : FS := (fApp 2 (fBin dIdx (fVar 0) (fBin dIdx (fVar 2) (fNeg (fC (.int 1))))))
def B_round_from : FS :=
  (fSeq (fSetF 2 (fLst (fCons (fVar 1) fNil))) (fSeq (fWhile (fBinT dNe (fBin dIdx (fVar 0) (fBin dIdx (fVar 2) (fNeg (fC (.int 1))))) (fVar 1)) (b_round_from_1)) (fRet (fVar 2))))
def f_round_from : FFn := runB N_round_from B_round_from
abbrev N_check_rounds : List Str := ["anchors", "name"]
def b_check_rounds_1 : FS := (fIfS (fBinT dIn (fVar 1) (fCall 2 f_way_up [] (fCons (fVar 0) (fCons (fVar 1) fNil)))) (fRaise "Round" ["names"] (fCons (fCall 2 f_round_from [] (fCons (fVar 0) (fCons (fVar 1) fNil))) fNil)) fNilS)
def B_check_rounds : FS :=
  (fFor (fIter (fCall 1 f_rising [] (fCons (fBlt dList (fCons (fVar 0) fNil)) fNil))) (fgNm 1) (b_check_rounds_1))
def f_check_rounds : FFn := runB N_check_rounds B_check_rounds
abbrev N_check_dish : List Str := ["name", "names"]
def B_check_dish : FS :=
  (fIfS (fNotT (fVal (fCall 2 f_is_among [] (fCons (fVar 0) (fCons (fVar 1) fNil))))) (fRaise "NoDish" ["name"] (fCons (fVar 0) fNil)) fNilS)
def f_check_dish : FFn := runB N_check_dish B_check_dish
abbrev N__law_with : List Str := ["_law_things", "_law_name", "_law_thing", "_law_found"]
def B__law_with : FS :=
  (fSeq (fSetF 3 (fBlt dDict (fCons (fVar 0) fNil))) (fSeq (fDput 3 (fVar 1) (fVar 2)) (fRet (fVar 3))))
def f__law_with : FFn := runB N__law_with B__law_with
abbrev N__law_same : List Str := ["_law_found", "_law_due", "_law_x", "_law_y"]
def B__law_same (sf : FFn) : FS :=
  (fSeq (fIfS (fVal (fBlt dIsi (fCons (fVar 1) (fCons (fTup (fCons (fC (.raw (.ty "list"))) (fCons (fC (.raw (.ty "tuple"))) fNil))) fNil)))) (fSeq (fIfS (fOrT (fBinT dNeX (fBlt dIsi (fCons (fVar 0) (fCons (fC (.raw (.ty "list"))) fNil))) (fBlt dIsi (fCons (fVar 1) (fCons (fC (.raw (.ty "list"))) fNil)))) (fBinT dNeX (fBlt dIsi (fCons (fVar 0) (fCons (fC (.raw (.ty "tuple"))) fNil))) (fBlt dIsi (fCons (fVar 1) (fCons (fC (.raw (.ty "tuple"))) fNil))))) (fRet (fC (.bl false))) fNilS) (fRet (fAnd (fBin dEqX (fBlt dLen (fCons (fVar 0) fNil)) (fBlt dLen (fCons (fVar 1) fNil))) (fBlt dAll (fCons (fLc (fZip (fVar 0) (fVar 1)) [2, 3] (fgTp (fgsCons (fgNm 2) (fgsCons (fgNm 3) fgsNil))) fYes (fCall 2 sf [] (fCons (fVar 2) (fCons (fVar 3) fNil)))) fNil))))) fNilS) (fSeq (fIfS (fVal (fBlt dIsi (fCons (fVar 1) (fCons (fC (.raw (.ty "int"))) fNil)))) (fRet (fAnd (fBlt dIsi (fCons (fVar 0) (fCons (fC (.raw (.ty "int"))) fNil))) (fAnd (fBin dEqX (fBlt dIsi (fCons (fVar 0) (fCons (fC (.raw (.ty "bool"))) fNil))) (fBlt dIsi (fCons (fVar 1) (fCons (fC (.raw (.ty "bool"))) fNil)))) (fBin dEqX (fVar 0) (fVar 1))))) fNilS) (fRet (fAnd (fBin dIs (fBlt dIsi (fCons (fVar 0) (fCons (fTup (fCons (fC (.raw (.ty "int"))) (fCons (fC (.raw (.ty "list"))) (fCons (fC (.raw (.ty "tuple"))) fNil)))) fNil))) (fC (.bl false))) (fBin dEqX (fVar 0) (fVar 1))))))
def r__law_same : Nat → FFn
  | 0 => fun _ => .bad
  | k + 1 => runB N__law_same (B__law_same (r__law_same k))
def f__law_same : FFn := r__law_same 6
end DL
namespace DL
open PySem PySem.Spec PyProof.Rows L2
variable [TabC]
/-! ### the program's data, typed -/
abbrev txs (xs : List Str) : D := .lst (xs.map .str)
inductive Mo where
  | clock | start (x : Str) | done (x : Str)
structure Wi where
  one : Mo
  other : Mo
  most : Int
abbrev Dis := List (Str × Int × Int)
abbrev Row := List (Str × Str × Int)
abbrev Anc := List (Str × Str)
def hangD (l : Anc) : D := .obj "Hanging" [("anchors", .dic (mapD .str l))]
abbrev keys {α : Type} (l : List (Str × α)) : List Str := l.map (·.1)
/-! names -/
def isGood (x : Str) : Bool := (match f_is_name [.str x] with | .ok (.bl b) => b | _ => false) && PyData.strOk x && !(x == "clock")
structure Good (x : Str) : Prop where
  nm : f_is_name [.str x] = .ok (.bl true)
  ok : sOk x
  nc : x ≠ "clock"
theorem good_of {x : Str} (h : isGood x = true) : Good x := by
  unfold isGood at h
  rw [Bool.and_eq_true, Bool.and_eq_true] at h
  obtain ⟨⟨h1, h2⟩, h3⟩ := h
  refine ⟨?_, h2, by simpa using h3⟩
  split at h1
  · rename_i b e
    rw [e, h1]
  · cases h1
theorem clock_ok : sOk "clock" := by decide +kernel
/-! rising -/
def strLe (y x : Str) : Bool := !decide (x.cps.toList < y.cps.toList)
def insR (found : List Str) (x : Str) : List Str := found.take (found.filter fun y => strLe y x).length ++ [x] ++ found.drop (found.filter fun y => strLe y x).length
def rise (xs : List Str) : List Str := xs.foldl insR []
theorem insR_perm (found : List Str) (x : Str) : (insR found x).Perm (found ++ [x]) := by
  unfold insR
  generalize (found.filter fun y => strLe y x).length = c
  have h : (found.take c ++ ([x] ++ found.drop c)).Perm (found.take c ++ (found.drop c ++ [x])) := List.Perm.append_left _ List.perm_append_comm
  rw [← List.append_assoc, ← List.append_assoc, List.take_append_drop] at h
  exact h
theorem rise_go : ∀ (xs acc : List Str), (xs.foldl insR acc).Perm (acc ++ xs)
  | [], acc => by rw [List.append_nil]; exact List.Perm.refl _
  | x :: xs, acc => by
    have h := (rise_go xs (insR acc x)).trans ((insR_perm acc x).append_right xs)
    rw [List.append_assoc] at h
    exact h
theorem rise_perm (xs : List Str) : (rise xs).Perm xs := rise_go xs []
theorem rise_snoc (xs : List Str) (x : Str) : rise (xs ++ [x]) = insR (rise xs) x := by
  unfold rise
  rw [List.foldl_append]
  rfl
theorem rise_len (xs : List Str) : (rise xs).length = xs.length := (rise_perm xs).length_eq
theorem ins_strs (c : Nat) (found : List Str) (x : Str) : (found.map D.str).take c ++ [.str x] ++ (found.map D.str).drop c = (found.take c ++ [x] ++ found.drop c).map .str := by
  rw [List.map_append, List.map_append, List.map_take, List.map_drop]
  rfl
theorem len_pre {α : Type} {acc post L : List α} {d : α} (e : acc ++ d :: post = L) : acc.length < L.length := by
  rw [← e, List.length_append, List.length_cons]
  omega
theorem v_rising {xs : List Str} (hl : xs.length ≤ 1000) : f_rising [txs xs] = .ok (txs (rise xs)) := by
  obtain ⟨s', e, x2, x3, rfl⟩ := for_acc (g := fgNm 2) (b := b_rising_1) D.str (fun acc s => ∃ x2 x3, s = [some (txs xs), some (txs (rise acc)), x2, x3]) xs (s := [some (txs xs), some (.lst []), none, none]) ⟨_, _, rfl⟩ (fun acc d post s e ⟨x2, x3, hs⟩ => by
    subst hs
    have hn := len_pre e
    refine ⟨_, rfl, _, insE (k := ((rise acc).filter fun y => strLe y d).length) (ds := (rise acc).map .str) rfl (consE (bltE (consE (lcE (ds := (rise acc).map .str) rfl (by rw [List.length_map, rise_len]; unfold LIM; omega) (lc_filter (g := fgNm 3) (t := fBinT dLe (fVar 3) (fVar 2)) (e := fVar 3) D.str (fun y => strLe y d) D.str (rise acc) fun y hy => ⟨_, rfl, rfl, fun _ => rfl⟩)) rfl) (by show some (D.int _) = _; rw [List.length_map])) (consE rfl rfl)) (by rw [List.length_map, rise_len]; unfold LIM; omega) (by have := List.length_filter_le (fun y => strLe y d) (rise acc); rw [rise_len] at this; unfold LIM; omega), ?_⟩
    rw [ins_strs, rise_snoc]
    exact ⟨_, _, rfl⟩)
  exact runB_rt (seqN (setFE (show 1 < 4 by decide) rfl) (seqN (forE (ds := xs.map .str) rfl e) (retE rfl)))
/-! chains -/
def upN (l : Anc) : Nat → Str → List Str
  | 0, _ => []
  | k + 1, x => match l.lookup x with
    | some a => if a = "clock" then [] else a :: upN l k a
    | none => []
/-- a hanging without rounds -/
structure Acy (l : Anc) (rk : Str → Nat) : Prop where
  nd : (keys l).Nodup
  good : ∀ x ∈ keys l, Good x
  up : ∀ x a, l.lookup x = some a → a = "clock" ∨ (a ∈ keys l ∧ rk a < rk x)
  bd : ∀ x ∈ keys l, rk x < l.length
  len : l.length ≤ 100
theorem up_more {l : Anc} {rk : Str → Nat} (A : Acy l rk) : ∀ (k : Nat) (x : Str), rk x ≤ k → upN l k x = upN l (k + 1) x
  | 0, x, h => by
    show [] = (match l.lookup x with | some a => if a = "clock" then [] else a :: upN l 0 a | none => [])
    cases e : l.lookup x with
    | none => rfl
    | some a =>
      rcases A.up x a e with z | z
      · simp only [z, if_true]
      · omega
  | k + 1, x, h => by
    rw [upN]
    conv => rhs; rw [upN]
    cases e : l.lookup x with
    | none => rfl
    | some a =>
      rcases A.up x a e with z | z
      · simp only [z, if_true]
      · simp only []
        rw [up_more A k a (by omega)]
def chain (l : Anc) (x : Str) : List Str := upN l l.length x
theorem chain_eq {l : Anc} {rk : Str → Nat} (A : Acy l rk) {x : Str} (hx : x ∈ keys l) : chain l x = match l.lookup x with
    | some a => if a = "clock" then [] else a :: chain l a
    | none => [] := by
  have h := A.bd x hx
  have e1 : chain l x = upN l (l.length + 1) x := up_more A _ x (by omega)
  rw [e1, upN]
  rfl
theorem chain_clock {l : Anc} {rk : Str → Nat} (A : Acy l rk) {x : Str} (h : l.lookup x = some "clock") : chain l x = [] := by
  rw [chain_eq A (List.mem_map.mpr ⟨_, look_some h, rfl⟩), h]
  rfl
theorem chain_up {l : Anc} {rk : Str → Nat} (A : Acy l rk) {x a : Str} (h : l.lookup x = some a) (ha : a ≠ "clock") : chain l x = a :: chain l a := by
  rw [chain_eq A (List.mem_map.mpr ⟨_, look_some h, rfl⟩), h]
  simp only [ha, if_false]
/-- induction up the chain -/
theorem Acy.ind {l : Anc} {rk : Str → Nat} (A : Acy l rk) {p : Str → Prop} (h0 : ∀ x, l.lookup x = some "clock" → p x) (h1 : ∀ x a, l.lookup x = some a → a ≠ "clock" → a ∈ keys l → rk a < rk x → p a → p x) : ∀ x ∈ keys l, p x := by
  have key : ∀ (k : Nat) (x : Str), rk x ≤ k → x ∈ keys l → p x := by
    intro k
    induction k with
    | zero =>
      intro x hk hx
      obtain ⟨a, e⟩ := look_mem hx
      rcases A.up x a e with z | z
      · subst z; exact h0 x e
      · omega
    | succ k ih =>
      intro x hk hx
      obtain ⟨a, e⟩ := look_mem hx
      by_cases z : a = "clock"
      · subst z; exact h0 x e
      · rcases A.up x a e with z' | z'
        · exact absurd z' z
        · exact h1 x a e z z'.1 z'.2 (ih a (by omega) z'.1)
  exact fun x hx => key (rk x) x (Nat.le_refl _) hx
theorem chain_rk {l : Anc} {rk : Str → Nat} (A : Acy l rk) : ∀ x ∈ keys l, ∀ y ∈ chain l x, y ∈ keys l ∧ rk y < rk x := by
  refine A.ind (fun x e y hy => ?_) (fun x a e ha hk hr ih y hy => ?_)
  · rw [chain_clock A e] at hy; cases hy
  · rw [chain_up A e ha] at hy
    rcases List.mem_cons.mp hy with z | z
    · subst z; exact ⟨hk, hr⟩
    · have := ih y z; exact ⟨this.1, by omega⟩
theorem chain_len {l : Anc} {rk : Str → Nat} (A : Acy l rk) : ∀ x ∈ keys l, (chain l x).length ≤ rk x := by
  refine A.ind (fun x e => ?_) (fun x a e ha hk hr ih => ?_)
  · rw [chain_clock A e]; exact Nat.zero_le _
  · rw [chain_up A e ha, List.length_cons]; omega
theorem lim_of {n : Nat} (h : n ≤ 1000) : n < LIM := by unfold LIM; omega
theorem v_way_go {l : Anc} {rk : Str → Nat} (A : Acy l rk) {x0 : Option D} : ∀ (k fuel : Nat) (here : Str) (found : List Str), k ≤ fuel → (here ∈ keys l → rk here < k) → (here = "clock" ∨ here ∈ keys l) → (∀ y ∈ found, y ∈ keys l ∧ (here ≠ "clock" → rk here < rk y)) → found.length + k ≤ 500 →
    ∃ h', fWhileN (fAndT (fBinT dNe (fVar 3) (fC (.str "clock"))) (fBinT dNotIn (fVar 3) (fVar 2))) b_way_up_1 (fuel + 1) [some (.dic (mapD .str l)), x0, some (txs found), some (.str here)] = .nx [some (.dic (mapD .str l)), x0, some (txs (found ++ if here = "clock" then [] else here :: chain l here)), some (.str h')] := by
  intro k
  induction k with
  | zero =>
    intro fuel here found hf hk hh hfo hl
    have e : here = "clock" := hh.resolve_right fun z => by have := hk z; omega
    subst e
    refine ⟨"clock", ?_⟩
    rw [fWhileN, andTF (binTE (x := .str "clock") (y := .str "clock") rfl rfl (dNe_str clock_ok clock_ok))]
    rw [if_pos rfl, List.append_nil]
    rfl
  | succ k ih =>
    intro fuel here found hf hk hh hfo hl
    by_cases e : here = "clock"
    · subst e
      refine ⟨"clock", ?_⟩
      rw [fWhileN, andTF (binTE (x := .str "clock") (y := .str "clock") rfl rfl (dNe_str clock_ok clock_ok))]
      rw [if_pos rfl, List.append_nil]
      rfl
    · have hin : here ∈ keys l := hh.resolve_left e
      have hr := hk hin
      have ho : sOk here := (A.good here hin).ok
      have hni : here ∉ found := fun z => by have := (hfo here z).2 e; omega
      obtain ⟨fu, rfl⟩ : ∃ fu, fuel = fu + 1 := ⟨fuel - 1, by omega⟩
      have t1 : fAndT (fBinT dNe (fVar 3) (fC (.str "clock"))) (fBinT dNotIn (fVar 3) (fVar 2)) [some (.dic (mapD .str l)), x0, some (txs found), some (.str here)] = .ok true := by
        refine andTT (binTE (x := .str here) (y := .str "clock") rfl rfl ?_) (binTE (x := .str here) (y := txs found) rfl rfl ?_)
        · rw [dNe_str ho clock_ok]; simp [e]
        · rw [dNotIn_strs ho fun y hy => (A.good y (hfo y hy).1).ok]; simp [hni]
      obtain ⟨a, ea⟩ := look_mem hin
      have b1 : b_way_up_1 [some (.dic (mapD .str l)), x0, some (txs found), some (.str here)] = .nx [some (.dic (mapD .str l)), x0, some (txs (found ++ [here])), some (.str a)] := by
        refine seqN (appE (ds := found.map .str) rfl rfl (by rw [List.length_map]; exact lim_of (by omega))) ((setE (dgetE rfl rfl rfl rfl)).trans ?_)
        rw [lookK_map, ea, show txs (found ++ [here]) = D.lst (found.map .str ++ [.str here]) by rw [txs, List.map_append]; rfl]
        rfl
      have ha := A.up here a ea
      obtain ⟨h', eh⟩ := ih fu a (found ++ [here]) (by omega) (fun z => by
        rcases ha with y | y
        · subst y; exact absurd rfl (A.good _ z).nc
        · omega) (ha.imp id (·.1)) (fun y hy => by
          rcases List.mem_append.mp hy with z | z
          · refine ⟨(hfo y z).1, fun na => ?_⟩
            have := (hfo y z).2 e
            have := (ha.resolve_left na).2
            omega
          · have z := List.mem_singleton.mp z
            subst z
            exact ⟨hin, fun na => (ha.resolve_left na).2⟩) (by rw [List.length_append, List.length_singleton]; omega)
      refine ⟨h', ?_⟩
      rw [fWhileN, t1]
      show (match b_way_up_1 _ with | .nx s2 => fWhileN _ _ (fu + 1) s2 | .ct s2 => fWhileN _ _ (fu + 1) s2 | .bk s2 => .nx s2 | o => o) = _
      rw [b1]
      show fWhileN _ _ (fu + 1) _ = _
      rw [eh, if_neg e, List.append_assoc]
      by_cases ca : a = "clock"
      · subst ca
        rw [if_pos rfl, chain_clock A ea]
        rfl
      · rw [if_neg ca, chain_up A ea ca]
        rfl
theorem v_way_up {l : Anc} {rk : Str → Nat} (A : Acy l rk) {x : Str} (hx : x ∈ keys l) : f_way_up [.dic (mapD .str l), .str x] = .ok (txs (chain l x)) := by
  obtain ⟨a, ea⟩ := look_mem hx
  have ha := A.up x a ea
  have hl := A.len
  obtain ⟨h', e⟩ := v_way_go A (x0 := some (.str x)) (l.length) 999999 a [] (by omega) (fun z => A.bd a z) (ha.imp id (·.1)) (fun y hy => by cases hy) (by simp; omega)
  refine runB_rt (seqN (setFE (show 2 < 4 by decide) rfl) (seqN (s' := [some (.dic (mapD .str l)), some (.str x), some (txs []), some (.str a)]) ?_ (seqN (s' := _) e ((retE rfl).trans ?_))))
  · refine (setE (dgetE rfl rfl rfl rfl)).trans ?_
    rw [lookK_map, ea]
    rfl
  · show SO.rt (txs ([] ++ _)) = _
    rw [List.nil_append]
    by_cases ca : a = "clock"
    · subst ca
      rw [if_pos rfl, chain_clock A ea]
    · rw [if_neg ca, chain_up A ea ca]
end DL
namespace DL
open PySem PySem.Spec PyProof.Rows L2
variable [TabC]
/-! ### what the drawing helpers promise -/
def FSp.rel (R : List D → Nat → (D → Nat → Prop) → Prop) (mn : ∀ ds n Q Q', (∀ d n', Q d n' → Q' d n') → R ds n Q → R ds n Q') : FSp := ⟨fun ds n Q _ => R ds n Q, fun ds n Q Q' _ hq h => mn ds n Q Q' hq h⟩
def NAMES : List Str := ["a", "b", "rice", "fish", "start", "done", "wish", "zz", "station", "clocks", "abcdefgh", "meal", "go", "wait", "cloc", "on"]
/-- each hangs on the clock or on what stands ahead -/
def Hung : List (Str × Str) → List Str → Prop
  | [], _ => True
  | (x, a) :: r, up => (a = "clock" ∨ a ∈ up) ∧ Hung r (up ++ [x])
def sp__law_take : FSp := sp_take (fun _ => 0)
def sp__law_one : FSp := .rel (fun ds n Q => ∃ xs, ds = [.st, .lst xs] ∧ 0 < xs.length ∧ xs.length ≤ 1000 ∧ n < 2 ^ 32 ∧ ∀ x, x ∈ xs → Q x (n + 1)) (fun _ _ _ _ hq ⟨xs, e, h1, h2, h3, q⟩ => ⟨xs, e, h1, h2, h3, fun x hx => hq _ _ (q x hx)⟩)
def sp__law_mix : FSp := .rel (fun ds n Q => ∃ xs : List D, (ds = [.st, .lst xs] ∨ ds = [.st, .tup xs]) ∧ xs.length ≤ 100 ∧ (∀ x ∈ xs, OkN 60 x) ∧ n < 2 ^ 31 ∧ ∀ ys : List D, ys.Perm xs → Q (.lst ys) (n + xs.length)) (fun _ _ _ _ hq ⟨xs, e, h1, h1b, h2, q⟩ => ⟨xs, e, h1, h1b, h2, fun ys p => hq _ _ (q ys p)⟩)
theorem perm_map {α β : Type} (f : α → β) : ∀ {ys zs : List β}, ys.Perm zs → ∀ xs : List α, zs = xs.map f → ∃ us : List α, us.Perm xs ∧ ys = us.map f := by
  intro ys zs h
  induction h with
  | nil => intro xs e; have : xs = [] := by cases xs <;> simp at e ⊢
           subst this; exact ⟨[], List.Perm.refl _, rfl⟩
  | cons x p ih =>
    intro xs e
    cases xs with
    | nil => simp at e
    | cons a xs =>
      rw [List.map_cons, List.cons.injEq] at e
      obtain ⟨us, pu, eu⟩ := ih xs e.2
      exact ⟨a :: us, pu.cons a, by rw [List.map_cons, eu, e.1]⟩
  | swap x y l =>
    intro xs e
    match xs, e with
    | a :: b :: xs, e =>
      simp only [List.map_cons, List.cons.injEq] at e
      refine ⟨b :: a :: xs, List.Perm.swap _ _ _, ?_⟩
      simp only [List.map_cons]
      rw [e.1, e.2.1, e.2.2]
  | trans p1 p2 ih1 ih2 =>
    intro xs e
    obtain ⟨us, pu, eu⟩ := ih2 xs e
    obtain ⟨vs, pv, ev⟩ := ih1 us eu
    exact ⟨vs, pv.trans pu, ev⟩
/-- .. of names -/
theorem mix_strs {n : Nat} {xs : List Str} {Q : D → Nat → Prop} {xq : XQ} (h1 : xs.length ≤ 100) (h2 : ∀ x ∈ xs, sOk x) (h3 : n < 2 ^ 31) (q : ∀ ys : List Str, ys.Perm xs → Q (txs ys) (n + xs.length)) : sp__law_mix.run [.st, txs xs] n Q xq := by
  refine ⟨xs.map .str, .inl rfl, by rw [List.length_map]; exact h1, fun d hd => ?_, h3, fun ys hp => ?_⟩
  · obtain ⟨x, hx, rfl⟩ := List.mem_map.mp hd
    exact .str (h2 x hx)
  · obtain ⟨us, pu, rfl⟩ := perm_map D.str hp xs rfl
    rw [List.length_map]
    exact q us pu
def sp__law_names : FSp := .rel (fun ds n Q => ∃ k : Nat, ds = [.st, .int (k : Int)] ∧ n < 2 ^ 31 ∧ ∀ ys : List Str, ys.Perm NAMES → Q (txs (ys.take k)) (n + 16)) (fun _ _ _ _ hq ⟨k, e, h2, q⟩ => ⟨k, e, h2, fun ys p => hq _ _ (q ys p)⟩)
def sp__law_hung : FSp := .rel (fun ds n Q => ∃ xs : List Str, ds = [.st, txs xs] ∧ xs.length ≤ 100 ∧ xs.Nodup ∧ (∀ x ∈ xs, PyData.strOk x = true) ∧ n < 2 ^ 30 ∧
    ∀ l : List (Str × Str), (l.map (·.1)).Perm xs → Hung l [] → Q (.dic (mapD .str l)) (n + 2 * xs.length)) (fun _ _ _ _ hq ⟨xs, e, h1, h2, h3, h4, q⟩ => ⟨xs, e, h1, h2, h3, h4, fun l p z => hq _ _ (q l p z)⟩)
end DL
namespace DL
open PySem PySem.Spec PyProof.Rows L2
variable [TabC]
abbrev N__law_one : List Str := ["_law_state", "_law_things"]
def B__law_one : SM :=
  (sRet (eBin dIdx (up (fVar 1)) (eCall 2 sp__law_take [] (up (fCons (fVar 0) (fCons (fBlt dLen (fCons (fVar 1) fNil)) fNil))))))
abbrev N__law_mix : List Str := ["_law_state", "_law_things", "_law_left", "_law_found"]
def B__law_mix : SM :=
  (sSeq (upS (fParFF 2 3 (fBlt dList (fCons (fVar 1) fNil)) (fLst fNil))) (sSeq (sWhile (up (fBinT dNe (fVar 2) (fLst fNil))) (sAppPop 3 2 (eCall 2 sp__law_take [] (up (fCons (fVar 0) (fCons (fBlt dLen (fCons (fVar 2) fNil)) fNil)))))) (upS (fRet (fVar 3)))))
abbrev N__law_names : List Str := ["_law_state", "_law_many", "_law_some"]
def B__law_names : SM :=
  (sSeq (upS (fSet 2 (fLst (fCons (fC (.str "a")) (fCons (fC (.str "b")) (fCons (fC (.str "rice")) (fCons (fC (.str "fish")) (fCons (fC (.str "start")) (fCons (fC (.str "done")) (fCons (fC (.str "wish")) (fCons (fC (.str "zz")) fNil))))))))))) (sRet (eSl (eCall 2 sp__law_mix [] (up (fCons (fVar 0) (fCons (fBin dAdd (fVar 2) (fLst (fCons (fC (.str "station")) (fCons (fC (.str "clocks")) (fCons (fC (.str "abcdefgh")) (fCons (fC (.str "meal")) (fCons (fC (.str "go")) (fCons (fC (.str "wait")) (fCons (fC (.str "cloc")) (fCons (fC (.str "on")) fNil)))))))))) fNil)))) (up fNone) (up (fSome (fVar 1))))))
abbrev N__law_hung : List Str := ["_law_state", "_law_names_here", "_law_row", "_law_found", "_law_k", "_law_name"]
def B__law_hung : SM :=
  (sSeq (sParEF 2 3 (eCall 2 sp__law_mix [] (up (fCons (fVar 0) (fCons (fVar 1) fNil)))) (up (fC (.dic [])))) (sSeq (sFor (up (fEnum (fVar 2))) (upG (fgTp (fgsCons (fgNm 4) (fgsCons (fgNm 5) fgsNil)))) (sDput 3 (up (fVar 5)) (eCall 2 sp__law_one [] (up (fCons (fVar 0) (fCons (fBin dAdd (fLst (fCons (fC (.str "clock")) fNil)) (fSl (fVar 2) fNone (fSome (fVar 4)))) fNil)))))) (upS (fRet (fVar 3)))))
end DL
namespace DL
open PySem PySem.Spec PyProof.Rows L2
variable [TabC]
/-! max, min of two numbers or of a list of numbers; sorted of a list of numbers -/
section
variable {X : Cx}
end
end DL
namespace DL
open PySem PySem.Spec PyProof.Rows L2
variable [TabC]
end DL
namespace DL
open PySem PySem.Spec PyProof.Rows L2
variable [TabC]
abbrev N__law_rising : List Str := ["_law_things", "_law_found", "_law_thing", "_law_x"]
def b__law_rising_1 : FS := (fIns 1 (fCons (fBlt dLen (fCons (fLc (fOwnL 1) ([3] ++ [1]) (fgNm 3) (fBinT dLe (fVar 3) (fVar 2)) (fVar 3)) fNil)) (fCons (fVar 2) fNil)))
def B__law_rising : FS :=
  (fSeq (fSetF 1 (fLst fNil)) (fSeq (fFor (fIter (fVar 0)) (fgNm 2) (b__law_rising_1)) (fRet (fVar 1))))
def f__law_rising : FFn := runB N__law_rising B__law_rising
abbrev N__law_same_dict : List Str := ["_law_found", "_law_due", "_law_key"]
def B__law_same_dict : FS :=
  (fSeq (fIfS (fOrT (fNotT (fVal (fBlt dIsi (fCons (fVar 0) (fCons (fC (.raw (.ty "dict"))) fNil))))) (fBinT dNeX (fBlt dList (fCons (fVar 0) fNil)) (fBlt dList (fCons (fVar 1) fNil)))) (fRet (fC (.bl false))) fNilS) (fRet (fBlt dAll (fCons (fLcD (fun s => (s[1]?).join) keysD [2] (fgNm 2) fYes (fCall 2 f__law_same [] (fCons (fBin dIdx (fVar 0) (fVar 2)) (fCons (fBin dIdx (fVar 1) (fVar 2)) fNil)))) fNil))))
def f__law_same_dict : FFn := runB N__law_same_dict B__law_same_dict
end DL
namespace DL
open PySem PySem.Spec PyProof.Rows L2
variable [TabC]
/-! ### what a slot owns is lent to a def that tells nothing that could be it -/
mutual
/-- nothing in it can be changed; mx: a mixed dict may be -/
def noAl (mx : Bool) : D → Bool
  | .non => true
  | .bl _ => true
  | .int _ => true
  | .str _ => true
  | .tup ds => noAlL mx ds
  | .dmx kvs => mx && noAlP mx kvs
  | _ => false
def noAlL (mx : Bool) : List D → Bool
  | [] => true
  | d :: ds => noAl mx d && noAlL mx ds
def noAlP (mx : Bool) : List (D × D) → Bool
  | [] => true
  | (k, d) :: ds => noAl mx k && noAl mx d && noAlP mx ds
end
section
variable {K : PySem.W.Frag} {aS : Addr} {H : Hp} {A A' : AS} {mx : Bool}
mutual
theorem Rep.far (hm : mx = true → ∀ b ys, A' b → Rd H b (MD.MixO TabC.w b ys) → A b) : ∀ (d : D) (v : V), noAl mx d = true → Rep K aS H A d v → Rep K aS H A' d v
  | .non, v, _, h => by rw [Rep] at h ⊢; exact h
  | .bl b, v, _, h => by rw [Rep] at h ⊢; exact h
  | .int i, v, _, h => by rw [Rep] at h ⊢; exact h
  | .str x, v, _, h => by rw [Rep] at h ⊢; exact h
  | .raw u, v, n, h => by simp [noAl] at n
  | .st, v, n, h => by simp [noAl] at n
  | .lst ds, v, n, h => by simp [noAl] at n
  | .dic ds, v, n, h => by simp [noAl] at n
  | .obj C ds, v, n, h => by simp [noAl] at n
  | .exc C ds, v, n, h => by simp [noAl] at n
  | .tup ds, v, n, h => by
    rw [noAl] at n
    rw [Rep] at h ⊢
    obtain ⟨a, xs, e, q, r⟩ := h
    exact ⟨a, xs, e, q, RepL.far hm ds xs n r⟩
  | .dmx kvs, v, n, h => by
    rw [noAl, Bool.and_eq_true] at n
    rw [Rep] at h ⊢
    obtain ⟨a, ys, e, na, q, r⟩ := h
    exact ⟨a, ys, e, fun z => na (hm n.1 a ys z q), q, RepP.far hm kvs ys n.2 r⟩
theorem RepL.far (hm : mx = true → ∀ b ys, A' b → Rd H b (MD.MixO TabC.w b ys) → A b) : ∀ (ds : List D) (vs : List V), noAlL mx ds = true → RepL K aS H A ds vs → RepL K aS H A' ds vs
  | [], vs, _, h => by rw [RepL] at h ⊢; exact h
  | d :: ds, vs, n, h => by
    rw [noAlL, Bool.and_eq_true] at n
    rw [RepL] at h ⊢
    obtain ⟨v, vr, e, r, q⟩ := h
    exact ⟨v, vr, e, Rep.far hm d v n.1 r, RepL.far hm ds vr n.2 q⟩
theorem RepP.far (hm : mx = true → ∀ b ys, A' b → Rd H b (MD.MixO TabC.w b ys) → A b) : ∀ (ds : List (D × D)) (vs : List MD.EntV), noAlP mx ds = true → RepP K aS H A ds vs → RepP K aS H A' ds vs
  | [], vs, _, h => by rw [RepP] at h ⊢; exact h
  | (k, d) :: ds, vs, n, h => by
    rw [noAlP, Bool.and_eq_true, Bool.and_eq_true] at n
    rw [RepP] at h ⊢
    obtain ⟨nk, kv, v, vr, e, z, rk, r, q⟩ := h
    exact ⟨nk, kv, v, vr, e, z, Rep.far hm k kv n.1.1 rk, Rep.far hm d v n.1.2 r, RepP.far hm ds vr n.2 q⟩
end
end
/-- arguments, lent ones among them -/
def VAO (X : Cx) (E : XK) (O : List Nat) (es : List Expr) (m : EM (List D)) : Prop := Mn m ∧ ∃ t, PA X es t ∧ ∀ (aS : Addr) (A0 : A0T) (H0 : Hp) (σ : L2.St) (H : Hp) (s : Ev) (n : Nat) (xq : XQ) (Q : List V → Hp → Prop), SR X.K aS O A0 H0 σ H s n → LX X.K E aS A0 H0 xq →
  m xq s n (fun d n' => ∀ v H', KpS aS H H' → StA X.K aS H' n' → RepL X.K aS H' (AV aS A0 [] []) d v → Q v H') → t σ H Q
theorem av_drop {aS : Addr} {A0 : AS} {O : List Nat} {σ : L2.St} : ∀ b, AV aS A0 [] [] b → AV aS A0 O σ b := fun b z => by
  rcases z with z | z | ⟨j, hj, _⟩
  · exact .inl z
  · exact .inr (.inl z)
  · cases hj
section
variable {X : Cx} {E : XK} {O : List Nat} {e : Expr} {es : List Expr} {m : EM D} {ml : EM (List D)} {pos : Pos}
theorem vao_nil : VAO X E O [] eNil := ⟨fun xq s n Q Q' hq h => hq _ _ h, _, pa_nil, fun aS A0 H0 σ H s n xq Q S L hm => hm [] H KpS.refl S.st RepL.nil⟩
theorem vao_cons (he : VE X E O e m) (hr : VAO X E O es ml) (hs : starEach (e :: es) X.env = (false, eval e X.env) :: starEach es X.env := by rfl) : VAO X E O (e :: es) (eCons m ml) := by
  obtain ⟨mna, ta, pa, fa⟩ := he
  obtain ⟨mnb, tb, pb, fb⟩ := hr
  refine ⟨mn_cons mna mnb, _, pa_cons pa pb hs, fun aS A0 H0 σ H s n xq Q S L hm => ?_⟩
  refine fa aS A0 H0 σ H s n xq _ S L (mna _ _ _ _ _ (fun d1 n1 q v1 H1 k1 st1 r1 => ?_) hm)
  refine fb aS A0 H0 σ H1 s n1 xq _ (S.step k1 st1) L (mnb _ _ _ _ _ (fun ds n2 q2 vs H2 k2 st2 r2 => ?_) q)
  exact q2 _ _ (k1.trans k2) st2 (RepL.cons (Rep.mono (sub_le av_drop) _ _ (r1.kp k2 st1 AV.st)) r2)
/-- what a slot owns -/
theorem vao_own {i : Nat} {x : Str} (hi : i ∈ O) (hN : X.N[i]? = some x) (hv : Vis X.env.scope x) (hr : VAO X E O es ml) (hs : starEach ((.Name x pos) :: es) X.env = (false, eval (.Name x pos) X.env) :: starEach es X.env := by rfl) (hd : (x == ("__debug__" : Str)) = false := by decide) (hcd : (x == ("__classdict__" : Str)) = false := by decide) : VAO X E O (.Name x pos :: es) (eCons (eVar i) ml) := by
  obtain ⟨mnb, tb, pb, fb⟩ := hr
  refine ⟨mn_cons (fun xq s n Q Q' hq ⟨d, e, q⟩ => ⟨d, e, hq _ _ q⟩) mnb, _, pa_cons (pe_var hN hv hd hcd) pb hs, fun aS A0 H0 σ H s n xq Q S L hm => ?_⟩
  obtain ⟨d, e, q⟩ := hm
  obtain ⟨d', a, e1, e2, e3, e4, e5, e6⟩ := S.ow i hi
  rw [e] at e1
  cases e1
  refine ⟨_, e2, fb aS A0 H0 σ H s n xq _ S L (mnb _ _ _ _ _ (fun ds n2 q2 vs H2 k2 st2 r2 => ?_) q)⟩
  have hn : ¬ AV aS A0 [] [] a := fun z => by
    rcases z with z | z | ⟨j, hj, _⟩
    · exact e4 z
    · exact e5 z
    · cases hj
  refine q2 _ _ k2 st2 (RepL.cons ?_ r2)
  exact ((e6.kp k2 S.st AV.st e5).mono av_drop).rep0 hn
/-- no slot owns a mixed dict -/
def noMx (O : List Nat) (s : Ev) : Bool := O.all fun i => match s[i]? with
  | some (some (.dmx _)) => false
  | _ => true
def eCallB (O : List Nat) (len : Nat) (sp : FSp) (m : EM (List D)) : EM D := fun xq s n Q => m xq s n fun ds n1 => ds.length = len ∧ sp.run ds n1 (fun d n2 => noAl (noMx O s) d = true ∧ Q d n2) xq
theorem ve_gB {x : Str} {ps : List Str} {k k' : Nat} {sp : FSp} {p : Pos} (tk : TK X E) {len : Nat} (hl : ps.length = len) (G : GFn X.prog X.w X.K X.mg X.base x k ps (lift X.K len sp)) (hr : Room k' X.A) (hk : k ≤ k') (hg : Gl X x) (ha : VAO X E O (e :: es) ml) (hdb : (x == ("__debug__" : Str)) = false := by decide)
    (he : starEach (e :: es) X.env = (false, eval e X.env) :: starEach es X.env := by rfl) (hpl : (backTo pos (starEach es X.env)).any (·.1) = false := by rfl) : VE X E O (.Call (.Name x p) (e :: es) [] pos) (eCallB O len sp ml) := by
  subst hl
  obtain ⟨f, fd, h1, h2, h3, h4⟩ := G
  obtain ⟨mn, t, pa, ft⟩ := ha
  refine ⟨fun xq s n Q Q' hq w => mn _ _ _ _ _ (fun ds n1 w => ⟨w.1, sp.mn _ _ _ _ _ (fun d n' z => ⟨z.1, hq _ _ z.2⟩) w.2⟩) w, _, pe_call h4 (DL.Room.le hr hk) hg h1 h2 h3 .nil (passes_call tk fun _ _ _ _ h => h) pa hdb he hpl, fun aS A0 H0 σ H s n xq Q S L hm => ?_⟩
  refine ft aS A0 H0 σ H s n xq _ S L (mn _ _ _ _ _ (fun ds n1 q vs H1 k1 st1 r1 => ?_) hm)
  have S1 := S.step k1 st1
  have eA : AV aS (AV aS A0 [] []) [] [] = AV aS A0 [] [] := AV.of (.inr (.inl rfl))
  have L1 : LX X.K E aS (AV aS A0 [] []) H1 xq := fun C fs n' d H' kp st r q => by
    refine L C fs n' d H' (S1.fr.trans kp) st ?_ q
    cases d with
    | none => exact r
    | some a =>
      obtain ⟨ys, z1, z2, z3⟩ := r
      rw [eA] at z3
      refine ⟨ys, ?_, z2, z3⟩
      cases ea : H0 a with
      | none => rfl
      | some u =>
        by_cases hs : a = aS
        · obtain ⟨xs, y⟩ := S1.st.lst
          rw [hs, y] at z1
          cases z1
        · exact (KpS.gone S1.fr z1 ea hs).elim
  rw [List.append_nil]
  refine ⟨aS, AV aS A0 [] [], ds, n1, xq, q.1, by rw [eA]; exact r1, S1.st, fun a z => ?_, L1, sp.mn _ _ _ _ _ (fun d n' w v H' kp st r => ?_) q.2⟩
  · rcases z with z | z | ⟨j, hj, _⟩
    · exact S1.av a z
    · obtain ⟨xs, y⟩ := S1.st.lst
      exact ⟨_, z ▸ y⟩
    · cases hj
  · rw [eA] at r
    refine w.2 v H' (k1.trans kp) st (Rep.far (mx := noMx O s) (fun hx b ys z hb => ?_) d v w.1 r)
    rcases z with z | z | ⟨j, hj, ej⟩
    · exact .inl z
    · exact .inr (.inl z)
    · -- owned, so no mixed dict
      exfalso
      obtain ⟨d0, a, e1, e2, e3, e4, e5, e6⟩ := S1.ow j hj
      rw [ej] at e2
      cases e2
      have hj2 := List.all_eq_true.mp hx j hj
      rw [e1] at hj2
      have e7 := e6.kp kp S1.st AV.st e5
      cases d0 with
      | dmx _ => cases hj2
      | lst ds =>
        obtain ⟨xs, y, _⟩ := e7
        rcases hb with hb | ⟨_, hb⟩ <;> rw [y] at hb <;> (unfold MD.MixO at hb; cases hb)
      | dic ds =>
        obtain ⟨xs, y, _⟩ := e7
        rcases hb with hb | ⟨_, hb⟩ <;> rw [y] at hb <;> (unfold MD.MixO at hb; cases hb)
      | obj C ds =>
        obtain ⟨dx, xs, y, _⟩ := e7
        rcases hb with hb | ⟨_, hb⟩ <;> rw [y] at hb <;> (unfold MD.MixO at hb; cases hb)
      | _ => exact e7.elim
end
/-! flat forms -/
def fCallB (O : List Nat) (len : Nat) (f : FFn) (l : FM (List D)) : FM D := fun s => (l s).bind fun ds => if ds.length = len then (f ds).bind fun d => if noAl (noMx O s) d = true then .ok d else .bad else .bad
theorem le_callB {O : List Nat} {len : Nat} {f : FFn} {l : FM (List D)} : ∀ xq s n Q, up (fCallB O len f l) xq s n Q → eCallB O len (FSp.of f) (up l) xq s n Q := fun xq s n Q h => by
  unfold eCallB up
  exact wp_mono (fun ds h => by
    obtain ⟨e, h⟩ := wp_dec h
    exact ⟨e, show (f ds).wp xq n (fun d n2 => noAl (noMx O s) d = true ∧ Q d n2) from wp_mono (fun d h => wp_dec h) (wp_bind h)⟩) (wp_bind h)
theorem loAO {X : Cx} {E : XK} {O : List Nat} {es : List Expr} {m : EM (List D)} {f : FM (List D)} (h : VAO X E O es m) (le : ∀ xq s n Q, up f xq s n Q → m xq s n Q) : VAO X E O es (up f) := by
  obtain ⟨mn, t, p, q⟩ := h
  exact ⟨mn_up, t, p, fun aS A0 H0 σ H s n xq Q S L hm => q aS A0 H0 σ H s n xq Q S L (le _ _ _ _ hm)⟩
theorem le_consO {i : Nat} {l : FM (List D)} : ∀ xq s n Q, up (fCons (fVar i) l) xq s n Q → eCons (eVar i) (up l) xq s n Q := fun xq s n Q h => by
  have := le_cons xq s n Q h
  exact le_var i _ _ _ _ this
theorem callBE {O : List Nat} {len : Nat} {f : FFn} {l : FM (List D)} {s : Ev} {ds : List D} {d : D} (h : l s = .ok ds) (hl : ds.length = len) (h2 : f ds = .ok d) (h3 : noAl (noMx O s) d = true) : fCallB O len f l s = .ok d := by
  unfold fCallB
  rw [h]
  show (if ds.length = len then _ else _) = _
  rw [if_pos hl, h2]
  show (if _ then _ else _) = _
  rw [if_pos h3]
end DL
namespace DL
open PySem PySem.Spec PyProof.Rows L2
variable [TabC]
/-! ### an object whose fields are laid anew: what a slot owns may be lent to its making -/
def FreshF (H0 : Hp) (x : Addr) (ys : List (Str × V)) : Prop := ∀ p ∈ ys, ∃ b, p.2 = .ref b ∧ b ≠ x ∧ H0 b = none
structure LKQ (K : PySem.W.Frag) (C : Str) (aS : Addr) (O OL : List Nat) (A0 : A0T) (H0 : Hp) (de : DE) (De : Ends) : Prop where
  nx : ∀ σ H s n, SR K aS O A0 H0 σ H s n → (∃ a dx ys, σ[0]? = some (some (.ref a)) ∧ H a = some (.ins (He.ga K C) dx ys) ∧ FreshF H0 a ys) → de.nx s n → De.nx σ H
  rt : ∀ v H d n, KpS aS H0 H → StA K aS H n → Rep K aS H (AV aS A0 [] []) d v → de.rt d n → De.rt v H
  bk : ∀ σ H s n, SR K aS OL A0 H0 σ H s n → de.bk s n → De.bk σ H
  ct : ∀ σ H s n, SR K aS OL A0 H0 σ H s n → de.ct s n → De.ct σ H
def VSsQ (X : Cx) (E : XK) (C : Str) (O O' OL : List Nat) (st : List Stmt) (m : SM) : Prop := ∃ t, PSs X st t ∧ ∀ (aS : Addr) (A0 : A0T) (H0 : Hp) (σ : L2.St) (H : Hp) (s : Ev) (n : Nat) (xq : XQ) (de : DE) (De : Ends), SR X.K aS O A0 H0 σ H s n → LX X.K E aS A0 H0 xq →
  LKQ X.K C aS O' OL A0 H0 de De → m xq de s n → t De σ H
def sFldQ (C g : Str) (m : EM D) : SM := fun xq de s n => m xq s n fun d n' => s[0]? = some (some (.obj C [])) ∧ de.nx (s.set 0 (some (.obj C [(g, d)]))) n'
section
variable {X : Cx} {E : XK} {O O' O'' OL : List Nat} {e : Expr} {es : List Expr} {st : Stmt} {rest : List Stmt} {m : EM D} {ml : EM (List D)} {ms mr : SM} {C : Str} {pos p : Pos}
theorem vssQ_cons (h1 : VS X E O O' OL st ms) (h2 : VSsQ X E C O' O'' OL rest mr) : VSsQ X E C O O'' OL (st :: rest) (sSeq ms mr) := by
  obtain ⟨t, p, f⟩ := h1
  obtain ⟨u, p2, f2⟩ := h2
  exact ⟨_, pss_cons p p2, fun aS A0 H0 σ H s n xq de De S L k h => f aS A0 H0 σ H s n xq { de with nx := fun s' n' => mr xq de s' n' } _ S L ⟨fun σ' H' s' n' S' q => f2 aS A0 H0 σ' H' s' n' xq de De S' L k q, k.rt, k.bk, k.ct⟩ h⟩
theorem loSsQ {f : FS} (h : VSsQ X E C O O' OL rest ms) (le : ∀ xq de s n, upS f xq de s n → ms xq de s n) : VSsQ X E C O O' OL rest (upS f) := by
  obtain ⟨t, p, q⟩ := h
  exact ⟨t, p, fun aS A0 H0 σ H s n xq de De S L k hm => q aS A0 H0 σ H s n xq de De S L k (le _ _ _ _ hm)⟩
theorem vssQ_fld {g y : Str} {p2 : Pos} (h0 : 0 ∈ O) (hN : X.N[0]? = some y) (hv : Vis X.env.scope y) (cl : Cls X.K (He.ga X.K C)) (na : NoAttr X.K (He.ga X.K C) g) (h : VF X E O e m) (hs : swapsWith e (some (.Attribute (.Name y p2) g p)) pos.line X.env = pure false := by rfl)
    (hd : (y == ("__debug__" : Str)) = false := by decide) (hcd : (y == ("__classdict__" : Str)) = false := by decide) : VSsQ X E C O O OL [.Assign [.Attribute (.Name y p2) g p] e pos] (sFldQ C g m) := by
  obtain ⟨mn, t, pe, f⟩ := h
  refine ⟨_, pss_one (ps_fld (pe_var hN hv hd hcd) pe hs), fun aS A0 H0 σ H s n xq de De S L k h => f aS A0 H0 σ H s n xq _ S L (mn _ _ _ _ _ (fun d n' q b H' hb kp st o => ?_) h)⟩
  obtain ⟨e, q⟩ := q
  have S' := S.step kp st
  obtain ⟨d0, a, e1, e2, e3, e4, e5, e6⟩ := S'.ow 0 h0
  rw [e] at e1
  cases e1
  obtain ⟨dx, ys, ha, rf⟩ := e6
  rw [RepF] at rf
  subst rf
  have hA : AV aS A0 O σ a := .inr (.inr ⟨0, h0, e2⟩)
  have r : Rep X.K aS H' (AV aS A0 O σ) d (.ref b) := o.rep fun z => S.new hb z
  have hH0 : H0 b = none := by
    refine Option.eq_none_iff_forall_ne_some.mpr fun u z => ?_
    exact (KpS.gone S.fr hb z (fun y => S.new hb (.inr (.inl y)))).elim
  have hba : b ≠ a := fun z => by
    obtain ⟨d1, a1, w1, w2, w3, w4, w5, w6⟩ := S.ow 0 h0
    rw [e2] at w2
    cases w2
    rw [e] at w1
    cases w1
    obtain ⟨dx1, ys1, ha1, _⟩ := w6
    rw [z, ha1] at hb
    cases hb
  refine ⟨_, e2, a, He.ga X.K C, dx, [], rfl, ha, cl, na, by decide, ?_⟩
  have r0 : RepF X.K aS H' (AV aS A0 O σ) [] [] := by rw [RepF]
  have S2 := S'.mut (d := .obj C (putFD g d [])) h0 e2 ha (fun _ z => nomatch z) (fun _ _ z => nomatch z) (o' := .ins (He.ga X.K C) dx (putF g (.ref b) [])) ⟨dx, _, upd_same, RepF.mono (sub_poke hA ha fun _ z => nomatch z) _ _ (repF_put r r0)⟩
  refine k.nx _ _ _ n' S2 ⟨a, dx, _, e2, upd_same, fun p hp => ?_⟩ q
  have hp : p ∈ [(g, V.ref b)] := hp
  rw [List.mem_singleton.mp hp]
  exact ⟨b, rfl, hba, hH0⟩
end
def liftIQ (K : PySem.W.Frag) (C : Str) (len : Nat) (sp : FSp) : Sp := fun vs H Q E => ∃ (aS : Addr) (A0 : AS) (ds : List D) (n : Nat) (xq : XQ) (x dx : Addr) (ws : List V), vs = .ref x :: ws ∧ ds.length + 1 = len ∧ H x = some (.ins (He.ga K C) dx []) ∧ ¬ A0 x ∧ x ≠ aS ∧
  RepL K aS H (fun b => AV aS A0 [] [] b ∨ b = x) ds ws ∧ StA K aS H n ∧ (∀ a, A0 a → ∃ u, H a = some u) ∧ LX K E aS A0 (fun b => if b = x then none else H b) xq ∧
  sp.run ds n (fun d n' => ∃ fs, d = .obj C fs ∧ ∀ H' dx' ys, (∀ b u, H b = some u → b ≠ aS → b ≠ x → Kp1 u (H' b)) → StA K aS H' n' → H' x = some (.ins (He.ga K C) dx' ys) → FreshF H x ys → RepF K aS H' (fun b => AV aS A0 [] [] b ∨ b = x) fs ys → Q .non H') xq
section
variable {P : Program} {w : World} {K : PySem.W.Frag} {mg : Str → Option Value} {base : Heap} {x qual : Str} {params : Arguments} {body : List Stmt} {scope : Scope} {dvs : List V} {kws : List (Str × V)} {f : Addr} {C : Str} {fd : FuncData}
theorem dfnIQ {N ps : List Str} {k : Nat} {sp : FSp} {m : SM} {O' : List Nat} (F : FunD K x qual params body scope dvs kws f fd) (Sc : FnScope N ps scope) (h0 : 0 ∈ O')
    (hb : ∀ (cdv : Value) (A : Around) (outer : List Env) (s : Shared) (H : Hp) (E : XK), Room k (A.deeper (envOfC qual scope s.heap.objs.size f cdv)) → VSsQ (cxOf (CX P w) P w K mg base N qual scope f cdv A outer s H E) (EU H E) C [0] O' [] body m)
    (hm : ∀ ds n Q xq, ds.length + 1 = ps.length → sp.run ds n Q xq → m xq { nx := fun s' n' => ∃ fs, s'[0]? = some (some (.obj C fs)) ∧ Q (.obj C fs) n', rt := fun _ _ => False } (startD N (.obj C [] :: ds)) n) : FnOk P w K mg base (CX P w) (k + 1) f fd ps (liftIQ K C ps.length sp) := by
  refine F.ok Sc (fun vs H Q E h => ?_) (fun cdv A outer s H vs Q E hr h => ?_)
  · obtain ⟨aS, A0, ds, n, xq, a, dx, ws, ev, hl, hx, na, ns, r, _⟩ := h
    rw [ev, List.length_cons, r.length, hl]
  · obtain ⟨aS, A0, ds, n, xq, a, dx, ws, ev, hl, hx, na, ns, r, st, av, L, q⟩ := h
    subst ev
    obtain ⟨t, p, ft⟩ := hb cdv A outer s H E hr
    obtain ⟨S, eA⟩ := SR.startI (N := N) hx na ns r st av
    refine ⟨t, p, ft aS ⟨A0, some a⟩ _ _ H _ n xq _ _ S L.eu ?_ (hm ds n _ xq hl q)⟩
    refine ⟨fun σ' H' s' n' S' fr q' => ?_, fun v H' d n' kp st' r' q' => q'.elim, fun _ _ _ _ _ z => z.elim, fun _ _ _ _ _ z => z.elim⟩
    obtain ⟨fs, e, fs', e', q'⟩ := q'
    cases e'
    obtain ⟨d1, a1, z1, z2, z3, z4, z5, z6⟩ := S'.ow 0 h0
    rw [e] at z1
    cases z1
    have ea := S'.pn h0 a rfl
    rw [z2] at ea
    cases ea
    obtain ⟨a2, dx2, ys2, y1, y2, y3⟩ := fr
    rw [z2] at y1
    cases y1
    obtain ⟨dx', ys, hx', rf⟩ := z6
    have same : ys = ys2 := by
      rw [y2] at hx'
      cases hx'
      rfl
    subst same
    refine q' H' dx' ys (fun b u hb nb nx => S'.fr b u ?_ nb) S'.st hx' (fun p hp => ?_) (RepF.mono (sub_le fun b z => ?_) _ _ rf)
    · rw [if_neg nx]
      exact hb
    · obtain ⟨b, e1, e2, e3⟩ := y3 p hp
      have e3 : (if b = a then none else H b) = none := e3
      rw [if_neg e2] at e3
      exact ⟨b, e1, e2, e3⟩
    · rcases z with z | z
      · exact av_nil b z
      · exact .inr (.inr ⟨0, h0, by rw [z]; exact z2⟩)
end
def GMkQ (P : Program) (w : World) (K : PySem.W.Frag) (mg : Str → Option Value) (base : Heap) (x : Str) (C : Str) (k : Nat) (ps : List Str) (sp : FSp) : Prop := ∃ f fd, mg x = some (.ref (He.ga K C)) ∧ Mk K (He.ga K C) f ∧ Binds K fd ps [] ∧ FnOk P w K mg base (CX P w) k f fd ps (liftIQ K C ps.length sp)
def flatK (mx : Bool) (zs : List (Key × D)) : Bool := zs.all fun p => noAl mx p.2
def flatF : List (Str × D) → Bool
  | [] => true
  | (_, .dic zs) :: fs => flatK false zs && flatF fs
  | _ => false
theorem RepK.far {K : PySem.W.Frag} {aS : Addr} {H : Hp} {A A' : AS} : ∀ {zs : List (Key × D)} {ys : List (Key × V)}, flatK false zs = true → RepK K aS H A zs ys → RepK K aS H A' zs ys
  | [], ys, _, r => by
    rw [RepK] at r ⊢
    exact r
  | (k, d) :: zs, ys, h, r => by
    unfold flatK at h
    rw [List.all_cons, Bool.and_eq_true] at h
    rw [RepK] at r ⊢
    obtain ⟨v, vr, e, r1, r2⟩ := r
    exact ⟨v, vr, e, Rep.far (mx := false) (fun z => nomatch z) d v h.1 r1, RepK.far h.2 r2⟩
theorem RepF.fresh {K : PySem.W.Frag} {aS a dx : Addr} {H1 H' : Hp} {A A' : AS} {C : Addr} (hn : ∀ b, H1 b = none → ¬ A' b) : ∀ {fs : List (Str × D)} {ys : List (Str × V)}, flatF fs = true → FreshF (upd (upd H1 dx (.own a)) a (.ins C dx [])) a ys → RepF K aS H' A fs ys → RepF K aS H' A' fs ys
  | [], ys, _, _, r => by
    rw [RepF] at r ⊢
    exact r
  | (g, d) :: fs, ys, h, fr, r => by
    rw [RepF] at r ⊢
    obtain ⟨v, vr, e, r1, r2⟩ := r
    subst e
    obtain ⟨b, e1, e2, e3⟩ := fr (g, v) List.mem_cons_self
    have e1 : v = .ref b := e1
    subst e1
    have hb : H1 b = none := by
      rw [upd_ne e2] at e3
      by_cases z : b = dx
      · rw [z, upd_same] at e3
        cases e3
      · rw [upd_ne z] at e3
        exact e3
    cases d with
    | dic zs =>
      rw [flatF, Bool.and_eq_true] at h
      refine ⟨_, vr, rfl, ?_, RepF.fresh hn h.2 (fun p hp => fr p (List.mem_cons_of_mem _ hp)) r2⟩
      rw [Rep] at r1 ⊢
      obtain ⟨c, zv, ev, nc, hr, rk⟩ := r1
      cases ev
      exact ⟨b, zv, rfl, hn b hb, hr, RepK.far h.1 rk⟩
    | _ => cases h
def eMakeQ (C : Str) (len : Nat) (sp : FSp) (m : EM (List D)) : EM D := fun xq s n Q => m xq s n fun ds n1 => ds.length + 1 = len ∧ sp.run ds n1 (fun r n' => (∃ fs, r = .obj C fs ∧ flatF fs = true) ∧ Q r n') xq
section
variable {X : Cx} {E : XK} {O : List Nat} {e : Expr} {es : List Expr} {ml : EM (List D)} {pos p : Pos} {x : Str} {C : Str} {ps : List Str} {k k' : Nat} {sp : FSp}
theorem ve_mkQ (tk : TK X E) {len : Nat} (hl : ps.length = len) (G : GMkQ X.prog X.w X.K X.mg X.base x C k ps sp) (hr : Room k' X.A) (hk : k + 1 ≤ k') (hg : Gl X x) (ha : VAO X E O (e :: es) ml) (hdb : (x == ("__debug__" : Str)) = false := by decide)
    (he : starEach (e :: es) X.env = (false, eval e X.env) :: starEach es X.env := by rfl) (hpl : (backTo pos (starEach es X.env)).any (·.1) = false := by rfl) : VE X E O (.Call (.Name x p) (e :: es) [] pos) (eMakeQ C len sp ml) := by
  subst hl
  obtain ⟨f, fd, h1, h2, h3, h4⟩ := G
  obtain ⟨mn, t, pa, ft⟩ := ha
  refine ⟨fun xq s n Q Q' hq w => mn _ _ _ _ _ (fun ds n1 w => ⟨w.1, sp.mn _ _ _ _ _ (fun d n' z => ⟨z.1, hq _ _ z.2⟩) w.2⟩) w, _, pe_make h2 h4 (DL.Room.le hr hk) hg h1 h3 .nil (passes_call tk fun _ _ _ _ h => h) pa hdb he hpl, fun aS A0 H0 σ H s n xq Q S L hm => ?_⟩
  refine ft aS A0 H0 σ H s n xq _ S L (mn _ _ _ _ _ (fun ds n1 q vs H1 k1 st1 r1 => ?_) hm)
  intro a dx ha hdx hne
  have S1 := S.step k1 st1
  have eA : AV aS (AV aS A0 [] []) [] [] = AV aS A0 [] [] := AV.of (.inr (.inl rfl))
  have L1 : LX X.K E aS (AV aS A0 [] []) H1 xq := fun C fs n' d H' kp st r q => by
    refine L C fs n' d H' (S1.fr.trans kp) st ?_ q
    cases d with
    | none => exact r
    | some a =>
      obtain ⟨ys, z1, z2, z3⟩ := r
      rw [eA] at z3
      refine ⟨ys, ?_, z2, z3⟩
      cases ea : H0 a with
      | none => rfl
      | some u =>
        by_cases hs : a = aS
        · obtain ⟨xs, y⟩ := S1.st.lst
          rw [hs, y] at z1
          cases z1
        · exact (KpS.gone S1.fr z1 ea hs).elim
  have ha1 : upd H1 dx (.own a) a = none := by rw [upd_ne (Ne.symm hne)]; exact ha
  have nO : ¬ AV aS A0 O σ a := S1.new ha
  have nA : ¬ AV aS A0 [] [] a := fun z => nO (av_drop a z)
  have na : a ≠ aS := fun z => nO (.inr (.inl z))
  have up : ∀ b u, H1 b = some u → upd (upd H1 dx (.own a)) a (.ins (He.ga X.K C) dx []) b = some u := fun b u e => by rw [upd_ne (ne_of_none e ha), upd_ne (ne_of_none e hdx)]; exact e
  have st2 : StA X.K aS (upd H1 dx (.own a)) n1 := S1.st.upd hdx
  have r2 : RepL X.K aS (upd H1 dx (.own a)) (AV aS A0 [] []) ds vs := r1.kp (KpS.upd hdx) S1.st AV.st
  rw [List.append_nil]
  refine ⟨aS, AV aS A0 [] [], ds, n1, xq, a, dx, vs, rfl, q.1, upd_same, nA, na, ?_, st2.upd ha1, fun b hb => ?_, LX.base L1 (fun b u e _ => ?_), sp.mn _ _ _ _ _ (fun d n' w => ?_) q.2⟩
  · rw [eA]
    exact RepL.mono (sub_new ha1) _ _ r2
  · rcases hb with hb | hb | ⟨j, hj, _⟩
    · obtain ⟨u, e⟩ := S1.av b hb
      exact ⟨u, up _ _ e⟩
    · obtain ⟨xs, y⟩ := S1.st.lst
      exact ⟨_, up _ _ (hb ▸ y)⟩
    · cases hj
  · refine .of ?_
    show (if b = a then none else upd (upd H1 dx (.own a)) a (.ins (He.ga X.K C) dx []) b) = some u
    rw [if_neg (ne_of_none e ha)]
    exact up b u e
  · obtain ⟨⟨fs, ed, hf⟩, w⟩ := w
    subst ed
    refine ⟨fs, rfl, fun H' dx' ys kp st hx fr rf => ⟨rfl, w (.ref a) H' (k1.trans fun b u e nb => kp b u (up b u e) nb (ne_of_none e ha)) st ?_⟩⟩
    rw [Rep]
    exact ⟨a, dx', ys, rfl, nO, hx, RepF.fresh (fun b hb => S1.new hb) hf fr rf⟩
end
/-! flat forms -/
def fFldQ (C g : Str) (a : FM D) : FS := fun (s : Ev) => (a s).so fun d => match s[(0 : Nat)]? with
  | some (some (.obj C1 [])) => if C1 = C then .nx (s.set 0 (some (.obj C [(g, d)]))) else .bad
  | _ => .bad
theorem ls_fldQ {C g : Str} {a : FM D} : ∀ xq de s n, upS (fFldQ C g a) xq de s n → sFldQ C g (up a) xq de s n := fun xq de s n h => by
  unfold sFldQ up
  refine wp_mono (fun d h => ?_) (wp_so h)
  split at h
  · next C1 e =>
    obtain ⟨ec, h⟩ := so_dec h
    subst ec
    exact ⟨e, h⟩
  · exact h.elim
theorem fldQE {C g : Str} {a : FM D} {s : Ev} {d : D} (h : a s = .ok d) (h2 : s[0]? = some (some (.obj C []))) : fFldQ C g a s = .nx (s.set 0 (some (.obj C [(g, d)]))) := by
  unfold fFldQ
  rw [h]
  show (match s[(0 : Nat)]? with | some (some (.obj C1 [])) => if C1 = C then SO.nx (s.set 0 (some (.obj C [(g, d)]))) else .bad | _ => .bad) = _
  rw [h2]
  show (if C = C then _ else _) = _
  rw [if_pos rfl]
def fMakeQ (C : Str) (len : Nat) (f : FFn) (l : FM (List D)) : FM D := fun s => (l s).bind fun ds => if ds.length + 1 = len then (f ds).bind fun d => match d with
    | .obj C1 fs => if (decide (C1 = C) && flatF fs) = true then .ok d else .bad
    | _ => .bad
  else .bad
theorem le_makeQ {C : Str} {len : Nat} {f : FFn} {l : FM (List D)} : ∀ xq s n Q, up (fMakeQ C len f l) xq s n Q → eMakeQ C len (FSp.of f) (up l) xq s n Q := fun xq s n Q h => by
  unfold eMakeQ up
  refine wp_mono (fun ds h => ?_) (wp_bind h)
  obtain ⟨e, h⟩ := wp_dec h
  refine ⟨e, ?_⟩
  have h2 : (f ds).wp xq n (fun r n' => (∃ fs, r = .obj C fs ∧ flatF fs = true) ∧ Q r n') := wp_mono (fun r h => by
    cases r with
    | obj C1 fs =>
      have h' : (if (decide (C1 = C) && flatF fs) = true then (Res.ok (D.obj C1 fs)) else Res.bad).wp xq n Q := h
      obtain ⟨e, h4⟩ := wp_dec h'
      obtain ⟨e1, e2⟩ := Bool.and_eq_true_iff.mp e
      have e1 := of_decide_eq_true e1
      subst e1
      exact ⟨⟨fs, rfl, e2⟩, h4⟩
    | _ => exact h.elim) (wp_bind h)
  exact h2
theorem makeQE {C : Str} {len : Nat} {f : FFn} {l : FM (List D)} {s : Ev} {ds : List D} {fs : List (Str × D)} (h : l s = .ok ds) (hl : ds.length + 1 = len) (h2 : f ds = .ok (.obj C fs)) (h3 : flatF fs = true) : fMakeQ C len f l s = .ok (.obj C fs) := by
  unfold fMakeQ
  rw [h]
  show (if ds.length + 1 = len then _ else _) = _
  rw [if_pos hl, h2]
  show (if (decide (C = C) && flatF fs) = true then _ else _) = _
  rw [if_pos (by rw [h3, decide_eq_true rfl]; rfl)]
end DL
namespace DL
open PySem PySem.Spec PyProof.Rows L2
/-! ### an own object whose __iter__ hands back an iterator over a dict that it holds -/
/-- at `it` stands an iterator over the keys of the dict at d, not asked yet -/
def KitO (d it : Addr) (n ep : Nat) : HO := .ext fun h => h.IsKeyIter it d 0 n ep
theorem kitO_ok {P : Program} {w : World} {H : Hp} {h : Heap} {d it : Addr} {n ep : Nat} (e : h.IsKeyIter it d 0 n ep) : ObjOk P w H h it (KitO d it n ep) := ⟨e, let ⟨o, z, _⟩ := e; ⟨o, z⟩, fun h1 h2 q k => let ⟨o, z, c⟩ := q; ⟨o, k _ z, c⟩⟩
/-- what comes of iter(d): a new such iterator, at a place from n on -/
def NewIt (H : Hp) (d : Addr) (o : Obj) (m n : Nat) (v : V) (H' : Hp) : Prop := ∃ it es ep, v = .ref it ∧ H' = upd H it (KitO d it m ep) ∧ o.data = .dict es ep ∧ H it = none ∧ n ≤ it
/-- iter(d), d locked -/
def rIterK (n : Nat) : List V → Hp → VK → Prop := fun xs H Q => ∃ (d : Addr) (o : Obj) (kvs : List (Key × V)), xs = [.ref d] ∧ H d = some (.frz o (.dK kvs)) ∧ ∀ v H', NewIt H d o kvs.length n v H' → Q v H'
theorem call_iterK {X : Cx} : CallR X (.builtin "iter") (rIterK X.s_0.heap.objs.size) := fun pins s σ H xs us Q I r ⟨d, o, kvs, ex, hq, q⟩ => by
  subst ex
  rcases vals1 r with ⟨u, rfl, ru⟩
  cases ru
  rcases I.frzK hq with ⟨sys, get, exact_, es, ep, _, data, size, _⟩
  have it : wpAny (model X.prog X.w) X.A.in1 (pyIter (.ref d)) (fun v s' => ∃ z, v = z ∧ EP X pins σ Q z s') X.xe s :=
    iter_keys sys get exact_ data ⟨_, rfl, .ref s.heap.objs.size, upd H s.heap.objs.size (KitO d s.heap.objs.size kvs.length ep), I.laid (t' := s.toks) (fun b u => Heap.get?_push_of_some _) (Nat.le_refl _) (kitO_ok ⟨_, Heap.get?_push_size _ rfl, rfl, by rw [size]; rfl⟩), rfl, q _ _ ⟨_, es, ep, rfl, rfl, data, I.hok.fresh (Nat.le_refl _), I.sz⟩⟩
  exact Calls.call_function_entry (by decide +kernel) (by decide +kernel) PySem.W.kdk_entry_iter (PySem.W.kdk_args_iter _) (by
    unfold Builtin.«iter»
    exact wpAny_bind (m := someArgs "iter" 1 2 _) (wpAny_of_eq (a := [Value.ref d]) (by kernel_rfl!) (wpAny_bind (wpAny_mono it (fun v s' ⟨z, e, h⟩ => wpAny_pure ⟨_, rfl, e ▸ h⟩) fun _ _ h => h))))
/-- the def at f, asked with an object of C whose field g holds a locked dict, hands back a new iterator over it -/
def RunIt (P : Program) (w : World) (K : PySem.W.Frag) (mg : Str → Option Value) (base : Heap) (C : Addr) (g : Str) (k : Nat) (f : Addr) : Prop :=
  ∀ {A : Around} {outer : List Env} {s : Shared} {H : Hp} {a dx d : Addr} {fs : List (Str × V)} {o : Obj} {kvs : List (Key × V)}, Room k A → Env0 P w K mg base A outer s H → H a = some (.ins C dx fs) → fs.lookup g = some (.ref d) → H d = some (.frz o (.dK kvs)) →
    wpAny (model P w) A (call (.ref f) [.ref a]) (CE outer P w H s (NewIt H d o kvs.length s.heap.objs.size)) (fun _ _ => False) s
section
variable {P : Program} {w : World} {K : PySem.W.Frag} {mg : Str → Option Value} {base : Heap} {x qual : Str} {params : Arguments} {scope : Scope} {kws : List (Str × V)} {f : Addr} {C : Addr} {fd : FuncData}
theorem dfnIt {N : List Str} {g y z : Str} {e : Expr} {k : Nat} {p1 p3 p4 : Pos} (F : FunD K x qual params [.Return (some (.Call (.Name z p1) [e] [] p3)) p4] scope [] kws f fd) (Sc : FnScope N [y] scope) (hB : Binds K fd [y] []) (cl : Cls K C) (na : NoAttr K C g)
    (hb : ∀ (cdv : Value) (A : Around) (outer : List Env) (s : Shared) (H : Hp) (E : XK), PE (cxOf (CX P w) P w K mg base N qual scope f cdv A outer s H E) (.Call (.Name z p1) [e] [] p3) (tCB (rIterK s.heap.objs.size) (tCons (tFld K (tVar 0) g) tNil))) :
    RunIt P w K mg base C g (k + 1) f := fun {A outer s H a dx d fs o kvs} hr e0 ha hg hd => by
  rcases F.ex with ⟨_, _, _, _, _, _, _, cdv, _, _, ef, lk, hcd, _⟩
  subst ef
  have inn : K.In s.heap := e0.mod.kin.keeps fun b u z => (e0.bs b u z).1
  have binds := hB s [.ref a] inn rfl
  have run := LamX.run_ofS (CX := CX P w) (E := fun _ _ _ => False) (Q := NewIt H d o kvs.length s.heap.objs.size) (vs := [.ref a]) (us := [.ref a]) lk hcd Sc hr e0 binds (.cons rfl .nil) rfl (fun _ => ⟨_, pss_one (ps_ret (hb cdv A outer s H _)), .ref a, rfl, a, C, dx, fs, .ref d, rfl, ha, cl, na, hg, d, o, kvs, rfl, hd, fun _ _ q => q⟩)
  refine wpAny_call (codeAny_mono run fun r s' q => ?_)
  rcases r with err | fl
  · rcases q with ⟨_, _, _, _, _, _, _, _, _, _, _, _, no⟩
    exact no
  · rcases fl with _ | _ | _ | u
    all_goals first | exact q | exact q.elim
end
/-- C's __iter__ stands at fi; C tells no length -/
structure ItK (K : PySem.W.Frag) (C fi : Addr) : Prop where
  at_ : Meth K C "__iter__" fi
  n1 : PySem.W.findIn K (.ref C) "__len__" = some none
  n2 : PySem.W.findIn K (.ref C) "__length_hint__" = some none
section
variable {X : Cx} {pins : List (Addr × Obj)} {σ : L2.St} {H : Hp} {s : Shared} {C fi a d dx : Addr} {g : Str} {fs : List (Str × V)} {kvs : List (Key × V)} {o : Obj} {n : Nat} {A1 : Around}
/-- the iterator has come: forget that it is tracked -/
theorem it_drop {it ep : Nat} (I : Inv X pins σ (upd H it (KitO d it kvs.length ep)) s) (hn : H it = none) (hz : X.s_0.heap.objs.size ≤ it) : s.heap.IsKeyIter it d 0 kvs.length ep ∧ Inv X pins σ H s ∧ FpOk X pins H it := by
  have i1 := ItX.inv_drop I (a := it) (φ := fun h => h.IsKeyIter it d 0 kvs.length ep) upd_same
  have i2 := ItX.inv_fp I (a := it) upd_same hz
  rw [ItX.dropH_upd hn] at i1 i2
  exact ⟨(I.hok it _ upd_same).1, i1, i2⟩
theorem pyIter_own {Q : Value → Shared → Prop} (sb : L2.Sub X n A1) (hc : ItK X.K C fi) (F : RunIt X.prog X.w X.K X.mg X.base C g n fi) (I : Inv X pins σ H s) (ha : H a = some (.ins C dx fs)) (hg : fs.lookup g = some (.ref d)) (hd : H d = some (.frz o (.dK kvs)))
    (hQ : ∀ it es ep s', o.data = .dict es ep → s'.heap.IsKeyIter it d 0 kvs.length ep → Inv X pins σ H s' → FpOk X pins H it → Q (.ref it) s') : wpAny (model X.prog X.w) A1 (pyIter (.ref a)) Q X.xe s := by
  rcases ins_get I.hok ha with ⟨_, J, _⟩
  rcases J.look with ⟨_, J, _⟩
  rcases I.fr with ⟨_, fr⟩
  refine PySem.W.owit_iter fr I.ok.mod.kin J hc.at_.at_ hc.at_.fn (wpAny_mono (F sb.room { I.env0 with frames := sb.fr.trans I.env0.frames } ha hg hd) (fun u s' q => ?_) fun _ _ z => z.elim)
  rcases I.after q with ⟨v, H', I', rv, it, es, ep, rfl, rfl, data, hn, hz⟩
  cases rv
  rcases it_drop I' hn (Nat.le_trans I.sz hz) with ⟨ki, i1, i2⟩
  show wpAny _ _ (specialOf (.ref it) "__next__") _ _ _
  exact wpAny_specialOf ki.typeIs PySem.F.slot_dict_keyiterator_next.lookup (hQ it es ep s' data ki i1 i2)
/-- for .. in e -/
theorem pi_ownIt {e tg : Expr} {te : TE} (hc : ItK X.K C fi) (F : RunIt X.prog X.w X.K X.mg X.base C g n fi) (hr : Room n X.A) (he : PE X e te) :
    PI X tg e (fun σ H R => te σ H fun x H1 => ∃ a dx fs d o kvs, x = .ref a ∧ H1 a = some (.ins C dx fs) ∧ fs.lookup g = some (.ref d) ∧ H1 d = some (.frz o (.dK kvs)) ∧ R (Itk d o kvs) H1) := ⟨fun ps t τ G R J h => by
  refine thn (he.run ps t τ G _ J h) fun u t1 ⟨x, G1, J1, rx, a, dx, fs, d, o, kvs, ex, ha, hg, hd, q⟩ => ?_
  subst ex
  cases rx
  exact pyIter_own (A1 := X.A) ⟨hr, rfl⟩ hc F J1 ha hg hd fun it es ep t2 data ki J2 fp => ⟨it, [it], _, _, G1, rfl, J2, turn_keys it data, ki, (fun b hb => List.mem_singleton.mp hb ▸ fp), q⟩⟩
/-! list(e) -/
def keysV (kvs : List (Key × V)) : List V := (kvs.map (·.1)).map kV
/-- a list object -/
abbrev newOf (acc : Array Value) (c : Nat) : Obj := { cls := .type "list", dict := none, data := .seq acc c, slots := #[] }
/-- behind the walk over the keys the list at q holds them -/
theorem keys_in [TabC] {it q ep c : Nat} {es : Array DictEntry} {Rs : Result → Shared → Prop} (hh : A1.in1.handled = none) (data : o.data = .dict es ep) (I : Inv X pins σ H s) (fp : FpOk X pins H it) (ki : s.heap.IsKeyIter it d 0 kvs.length ep) (hd : H d = some (.frz o (.dK kvs))) (hq : H q = some (.lst [])) (gq : s.heap.get? q = some { cls := .type "list", data := .seq #[] c })
    (fin : ∀ s', Inv X pins σ (upd H q (.lst (keysV kvs))) s' → Rs (.ok (.ret .none)) s') : codeAny (model X.prog X.w) A1 (.builtin "list.extend.loop" ⟨[.ref q, .ref it, .none], []⟩) Rs s := by
  rcases fp with ⟨f0, f1, f2, f3, f4, f5⟩
  rcases I.frzK hd with ⟨_, get, _, _, ep', vs, data', _, rel, at_⟩
  obtain ⟨_, rfl⟩ := dict_ep data data'
  have len : kvs.length = vs.length := KV.length rel
  have dq : q ≠ d := fun z => by rw [z, hd] at hq; cases hq
  have iq : q ≠ it := fun z => by rw [← z, hq] at f0; cases f0
  have di : d ≠ it := fun z => by rw [← z, hd] at f0; cases f0
  have few := (dk_rd I.hok (.inr ⟨o, hd⟩)).1
  refine codeAny_extend_loopS (Walks.dictKeys hh it d di vs ep').toS (len ▸ few) q (by simp [iq, dq]) .none vs.length 0 s #[] c (Nat.sub_zero _) (Nat.zero_le _) ⟨len ▸ ki, at_⟩ gq (ItemsOf.nil _) fun s' acc c' mv gq' got => ?_
  have same : ∀ b u, b ≠ q → b ≠ it → s.heap.get? b = some u → s'.heap.get? b = some u := fun b u h1 h2 => mv.heap b u (by simp [h1, h2])
  have at1 : (s.heap.update q fun _ => newOf acc c').get? q = some (newOf acc c') := Heap.get?_update_self _ gq rfl
  have I1 : Inv X pins σ (upd H q (.lst (keysV kvs))) { s with heap := s.heap.update q fun _ => newOf acc c', toks := s.toks } :=
    I.write (x := q) (e := q) (by rw [hq]; trivial) (.inl rfl) (fun b u nb => (Heap.get?_update_other _ _ (Ne.symm nb)).trans) ⟨_, at1⟩ ⟨by unfold keysV; simpa using few, _, c', keys_got rel got.1 got.2, by simpa using at1⟩
  have n0 : upd H q (.lst (keysV kvs)) it = none := by rw [upd_ne (Ne.symm iq)]; exact f0
  have I2 := I1.turned (h' := s'.heap) (t' := s'.toks) (fun b u nb e => by
    by_cases z : b = q
    · subst z
      rw [at1] at e
      exact gq'.trans e
    · exact same b u z nb ((Heap.get?_update_other _ _ (Ne.symm z)).symm.trans e)) n0 f1 f3 f4 f5
  rw [Moved.eq_with mv]
  exact fin _ I2
/-- list.__init__ of an empty list and u: what extend does with u -/
theorem init_one {M : Model} {A : Around} {s : Shared} {q c : Nat} {u : Value} {K : PySem.Fin → Shared → Prop} {E : Value → Shared → Prop} (gq : s.heap.get? q = some (newOf #[] c))
    (h : wpAny M A (Builtin.List.listExtendWith (.ref q) u .none) K E { s with heap := s.heap.update q (Obj.mapSeq fun _ => #[]) }) : wpAny M A (Builtin.«list.__init__» ⟨[.ref q, u], []⟩) K E s := by
  have first : wpAny M A (Builtin.List.listItems (.ref q)) (fun xs s' => xs = #[] ∧ s' = s) E s := by
    unfold Builtin.List.listItems
    exact wpAny_bind (wpAny_seqItems gq rfl (wpAny_pure ⟨rfl, rfl⟩))
  change wpAny M A (Builtin.List.listItems (.ref q) >>= fun old => updateSeq q (fun _ => #[]) >>= fun _ => letGo old.toList.reverse >>= fun _ => Builtin.List.listExtendWith (.ref q) u .none) K E s
  exact wpAny_bind (wpAny_mono first (fun xs s' ⟨e1, e2⟩ => by subst e1 e2; exact wpAny_bind (wpAny_updateSeq gq rfl (wpAny_bind (wpAny_letGo h)))) fun _ _ z => z)
/-- of an object of C nothing is known ahead -/
theorem long_own {M : Model} {A : Around} {s : Shared} {K : PySem.W.Frag} {ox : Obj} {od : Option Obj} {R : Bool → Shared → Prop} {E : Value → Shared → Prop} (hc : ItK K C fi) (inn : K.In s.heap) (J : PySem.W.InstAt s.heap a ox C od) (h : R true s) : wpAny M A (Builtin.List.listLengthHint (.ref a)) R E s := by
  have two : wpAny M A (specialOf (.ref a) "__length_hint__") (fun r s' => r = none ∧ R true s') E s := wpAny_bind (J.type.here ((PySem.W.looks_findIn inn hc.n2).here ⟨rfl, h⟩))
  have one : wpAny M A (specialOf (.ref a) "__len__") (fun r s' => r = none ∧ s' = s) E s := wpAny_bind (J.type.here ((PySem.W.looks_findIn inn hc.n1).here ⟨rfl, rfl⟩))
  unfold Builtin.List.listLengthHint
  exact wpAny_bind (wpAny_mono one (fun r s' ⟨e1, e2⟩ => by subst e1 e2; exact PySem.W.KFB.if_not rfl (PySem.W.KFB.if_not rfl (wpAny_bind (wpAny_mono two (fun r s' ⟨e, h⟩ => by subst e; exact wpAny_pure h) fun _ _ z => z)))) fun _ _ z => z)
def rLIt (C : Addr) (g : Str) : List V → Hp → VK → Prop := fun xs H Q => ∃ a dx fs d o kvs, xs = [.ref a] ∧ H a = some (.ins C dx fs) ∧ fs.lookup g = some (.ref d) ∧ H d = some (.frz o (.dK kvs)) ∧ ∀ q, H q = none → Q (.ref q) (upd H q (.lst (keysV kvs)))
theorem call_listIt [TabC] (hc : ItK X.K C fi) (F : RunIt X.prog X.w X.K X.mg X.base C g n fi) (hr : Room (n + 2) X.A) : CallR X (.type "list") (rLIt C g) := fun pins s σ H xs us Q I rv ⟨a, dx, fs, d, o, kvs, ex, ha, hg, hd, q⟩ => by
  subst ex
  rcases rv.one with ⟨u, rfl, ru⟩
  cases ru
  have hn := I.hok.fresh (Nat.le_refl s.heap.objs.size)
  have I1 := I.lnew (its := []) (t' := s.toks) .nil (Nat.zero_le _)
  have g1 : (s.heap.push (newOf #[] 0)).get? s.heap.objs.size = some (newOf #[] 0) := Heap.get?_push_size _ rfl
  have in2 : L2.Sub X n X.A.in1.in1 := .in1 (.in1 ⟨hr, rfl⟩)
  have qn := q _ hn
  refine callType_codes (Q₁ := fun v s₁ => v = .ref s.heap.objs.size ∧ s₁ = { s with heap := s.heap.push (newOf #[] 0) }) PySem.F.called_list (PySem.F.typeCall_list_1 _) PySem.F.entry_list_init (code_list_new _ ⟨rfl, rfl⟩) fun v s₁ ⟨ev, es⟩ => ?_
  subst ev es
  refine ⟨⟨_, g1, rfl⟩, PySem.F.args_list_init_2 _ _, ?_⟩
  have ha1 := (upd_ne (o := HO.lst []) (ne_of_none ha hn)).trans ha
  have hd1 := (upd_ne (o := HO.lst []) (ne_of_none hd hn)).trans hd
  have q_a : s.heap.objs.size ≠ a := (ne_of_none ha hn).symm
  have g2 := Heap.get?_update_self (Obj.mapSeq fun _ => (#[] : Array Value)) g1 rfl
  have I2 := I1.lset (f := fun _ => #[]) (its := []) (its' := []) (ys := []) (n := 0) (t' := s.toks) upd_same g1 rfl .nil (Nat.zero_le _)
  rw [upd_upd] at I2
  refine init_one g1 ?_
  generalize s.heap.objs.size = q at *
  have done : ∀ s', Inv X pins σ (upd (upd H q (.lst [])) q (.lst (keysV kvs))) s' → wants (fun r s₂ => r = .none ∧ EP X pins σ Q (.ref q) s₂) X.xe (.ok (.ret .none)) s' := fun s' I' => ⟨rfl, .ref q, _, upd_upd (H := H) ▸ I', rfl, qn⟩
  have hh : X.A.in1.in1.handled = none := in2.room.hd
  rcases ins_get I2.hok ha1 with ⟨_, J, _⟩
  rcases J.look with ⟨_, J, _⟩
  have no : (Builtin.List.listSameRef (.ref q) (.ref a) || Value.ref C == .type "list" || Value.ref C == .type "tuple") = false := by
    have z : Builtin.List.listSameRef (.ref q) (.ref a) = false := beq_eq_false_iff_ne.mpr q_a
    rw [z]
    rfl
  unfold Builtin.List.listExtendWith
  refine wpAny_bind (J.type.here ?_)
  rw [if_neg (no ▸ Bool.false_ne_true)]
  refine wpAny_bind (pyIter_own in2 hc F I2 ha1 hg hd1 fun it es ep s2 data ki I3 fp => ?_)
  rcases ins_get I3.hok ha1 with ⟨_, J2, _⟩
  rcases J2.look with ⟨_, J2, _⟩
  rcases I3.lstM upd_same with ⟨_, its, c, rv0, _, g3⟩
  cases rv0
  have qi : q ≠ it := fun z => by have := fp.1; rw [← z, upd_same] at this; cases this
  refine wpAny_bind (wpAny_holding (long_own hc I3.kIn J2 ?_))
  have loop : ∀ (h' : Heap) (t c' : Nat), Inv X pins σ (upd H q (.lst [])) { s2 with heap := h', toks := t } → h'.IsKeyIter it d 0 kvs.length ep → h'.get? q = some (newOf #[] c') → wpAny (model X.prog X.w) X.A.in1.in1 (again (.builtin "list.extend.loop" ⟨[.ref q, .ref it, .none], []⟩))
      (fun fin s' => match fin with | .done f => wants (fun r s₂ => r = .none ∧ EP X pins σ Q (.ref q) s₂) X.xe (.ok f) s' | .again c' => c'.quiet = true ∧ codeAny (model X.prog X.w) X.A.in1 c' (wants (fun r s₂ => r = .none ∧ EP X pins σ Q (.ref q) s₂) X.xe) s') (fun e s' => wants (fun r s₂ => r = .none ∧ EP X pins σ Q (.ref q) s₂) X.xe (.error e) s') { s2 with heap := h', toks := t } :=
    fun h' t c' I' ki' g' => wpAny_pure ⟨plainId_quiet PySem.F.plain_extend_loop _, keys_in (A1 := X.A.in1) hh data I' fp ki' hd1 upd_same g' done⟩
  refine wpAny_ite_split (fun _ => ?_) fun _ => loop _ _ _ I3 ki g3
  -- a place is made for what is not known
  have J4 := I3.lset (f := (·.push Value.none)) (its' := [Value.none]) (ys := [.non]) (t' := s2.toks) upd_same g3 (by simp) (.cons rfl .nil) (by rw [sizeLine_eq]; show 1 ≤ 16777216; decide)
  rcases J4.lstM upd_same with ⟨_, its4, c4, rv4, _, g4⟩
  rcases rv4.one with ⟨u4, rfl, _⟩
  have J5 := J4.lset (f := (·.pop)) (its := [u4]) (its' := []) (ys := []) (t' := s2.toks) upd_same g4 (by rfl) .nil (Nat.zero_le _)
  rw [upd_upd, upd_upd] at J5
  rcases J5.lstM upd_same with ⟨_, its5, c5, rv5, _, g5⟩
  cases rv5
  have touch : wpAny (model X.prog X.w) X.A.in1.in1 (Builtin.List.listTouch (.ref q)) (fun _ s' => s' = { s2 with heap := (s2.heap.update q (Obj.mapSeq (·.push Value.none))).update q (Obj.mapSeq (·.pop)) }) (fun e s' => wants (fun r s₂ => r = .none ∧ EP X pins σ Q (.ref q) s₂) X.xe (.error e) s') s2 := by
    unfold Builtin.List.listTouch
    exact wpAny_bind (wpAny_updateSeq g3 rfl (wpAny_updateSeq g4 rfl rfl (by rw [sizeLine_eq]; show 1 ≤ 16777216; decide) (Nat.zero_le _)))
  have ki5 : ((s2.heap.update q (Obj.mapSeq (·.push Value.none))).update q (Obj.mapSeq (·.pop))).IsKeyIter it d 0 kvs.length ep := let ⟨oi, z, r⟩ := ki; ⟨oi, (Heap.get?_update_other _ _ qi).trans ((Heap.get?_update_other _ _ qi).trans z), r⟩
  exact wpAny_bind (wpAny_rule (wpAny_bind (wpAny_mono touch (fun _ s' e => by subst e; exact loop _ _ _ J5 ki5 g5) fun _ _ z => z)))
end
end DL
namespace DL
open PySem PySem.Spec PyProof.Rows L2
variable [TabC]
/-- C's __iter__ walks the dict in its field g -/
def GIt (P : Program) (w : World) (K : PySem.W.Frag) (mg : Str → Option Value) (base : Heap) (C g : Str) (k : Nat) : Prop := ∃ fi, ItK K (He.ga K C) fi ∧ RunIt P w K mg base (He.ga K C) g k fi
section
variable {X : Cx} {E : XK} {O : List Nat} {e tg : Expr} {p : Ev → Option D} {C g : Str} {k k' : Nat} {pos p1 : Pos}
def itP (C g : Str) (p : Ev → Option D) : Ev → Option D := fun s => (p s).bind (fldD C g)
theorem it_rep {pv : L2.St → Hp → V → Prop} {aS : Addr} {A0 : A0T} {σ : L2.St} {H : Hp} {s : Ev} {d : D} (h2 : ∀ (d : D), p s = some d → ∃ v, pv σ H v ∧ Rep X.K aS H (AV aS A0 O σ) d v) (e : itP C g p s = some d) :
    ∃ v, (∃ a dx fs, pv σ H (.ref a) ∧ H a = some (.ins (He.ga X.K C) dx fs) ∧ fs.lookup g = some v) ∧ Rep X.K aS H (AV aS A0 O σ) d v := by
  obtain ⟨d0, hp, e2⟩ := Option.bind_eq_some_iff.mp e
  unfold fldD at e2
  split at e2
  · split at e2
    · next C' fs hc =>
      subst hc
      obtain ⟨v, ev, r⟩ := h2 _ hp
      rw [Rep] at r
      obtain ⟨a, dx, ys, eq, na', hq, rf⟩ := r
      subst eq
      rcases repF_look g rf with z | ⟨d', u, z1, z2, z3⟩
      · rw [z.1] at e2; cases e2
      · rw [e2] at z1
        cases z1
        exact ⟨u, ⟨a, dx, ys, ev, hq, z2⟩, z3⟩
    · cases e2
  · cases e2
theorem vd_ownIt (G : GIt X.prog X.w X.K X.mg X.base C g k) (hr : Room k' X.A) (hk : k ≤ k') (h : VP X O e p) : VD X O tg e (itP C g p) keysD := by
  obtain ⟨fi, hI, hF⟩ := G
  obtain ⟨t, pe, pv, h1, h2, h3⟩ := h
  refine ⟨fun σ H v => ∃ a dx fs, pv σ H (.ref a) ∧ H a = some (.ins (He.ga X.K C) dx fs) ∧ fs.lookup g = some v, Itk, ⟨fun pins s σ H R I ⟨d, o, kvs, ⟨a, dx, fs, hp, ha, hg⟩, e2, q⟩ => (pi_ownIt hI hF (DL.Room.le hr hk) pe).run pins s σ H R I (h1 σ H _ _ hp ⟨a, dx, fs, d, o, kvs, rfl, ha, hg, e2, q⟩)⟩,
    fun aS A0 H0 σ H s n d S e => it_rep (fun d => h2 aS A0 H0 σ H s n d S) e, fun σ H b o u v hb pl ⟨a, dx, fs, hp, hq, e2⟩ => ⟨a, dx, fs, h3 σ H b o u _ hb pl hp, ?_, e2⟩, fun aS A0 H0 σ H s n b o ys kvs S hn hb r => ?_⟩
  · have z : a ≠ b := fun z => pl.1 _ dx fs (by rw [z, hb] at hq; exact Option.some.inj hq)
    rw [upd_ne z]
    exact hq
  · have hl : (keysD kvs).length = ys.length := by rw [keysD, List.length_map, List.length_map, r.length]
    refine ⟨_, _, hl ▸ walk_keys, fun H1 k => frz_on (K := X.K) hn hb k, fun i H1 x H2 n A hi k st hF y => ?_⟩
    obtain ⟨e, kk, v, ek, ex⟩ := y
    subst e ex
    refine ⟨Gr.refl _, kD kk, ?_, rep_kD kk⟩
    have e2 : (ys.map (·.1))[i]? = some kk := by rw [List.getElem?_map, ek]; rfl
    rw [r.keys] at e2
    rw [keysD, List.getElem?_map, e2]
    rfl
def eLIt (p : Ev → Option D) : EM D := fun xq s n Q => ∃ kvs, p s = some (.dic kvs) ∧ Q (.lst (keysD kvs)) n
theorem vf_listIt (G : GIt X.prog X.w X.K X.mg X.base C g k) (hr : Room k' X.A) (hk : k + 2 ≤ k') (hgl : Gl X "list") (hm : X.mg "list" = none) (h : VP X O e p) (he : starEach [e] X.env = (false, eval e X.env) :: starEach [] X.env := by rfl) (hpl : (backTo pos (starEach [] X.env)).any (·.1) = false := by rfl) :
    VF X E O (.Call (.Name "list" p1) [e] [] pos) (eLIt (itP C g p)) := by
  obtain ⟨fi, hI, hF⟩ := G
  obtain ⟨t, pe, pv, h1, h2, h3⟩ := h
  have pl : PE X (.Call (.Name "list" p1) [e] [] pos) _ := pe_callTy (call_listIt hI hF (DL.Room.le hr hk)) hgl hm rfl (pa_cons pe pa_nil he) (by decide) rfl he hpl
  refine ⟨fun xq s n Q Q' hq ⟨kvs, e, q⟩ => ⟨kvs, e, hq _ _ q⟩, _, pe_or pl (pe_lock pl), fun aS A0 H0 σ H s n xq Q S L hm => ?_⟩
  obtain ⟨kvs, e, q⟩ := hm
  obtain ⟨v, ⟨a, dx, fs, hp, ha, hg⟩, r⟩ := it_rep (fun d => h2 aS A0 H0 σ H s n d S) e
  rw [Rep] at r
  obtain ⟨b, ys, eb, hn, hr, rk⟩ := r
  subst eb
  have nb : b ≠ aS := fun z => hn (.inr (.inl z))
  have ek : keysV ys = (ys.map (·.1)).map kV := rfl
  rcases hr with hr | ⟨o, hr⟩
  · refine .inr ⟨b, _, hr, trivial, fun od => ?_⟩
    have Sl := S.lock (o := od) hn hr
    have nab : a ≠ b := fun z => by rw [z, hr] at ha; cases ha
    refine h1 σ _ _ _ (h3 σ H b od _ _ hr plain_dK hp) ?_
    refine ⟨a, dx, fs, b, od, ys, rfl, by rw [upd_ne nab]; exact ha, hg, upd_same, fun c hc => ?_⟩
    have nbc : c ≠ b := fun z => by rw [z, upd_same] at hc; cases hc
    have hcH : H c = none := by rw [upd_ne nbc] at hc; exact hc
    refine ⟨by rw [upd_ne (Ne.symm nbc)]; exact upd_same, ?_⟩
    have eH : upd (upd (upd H b (.frz od (.dK ys))) c (.lst (keysV ys))) b (.dK ys) = upd H c (.lst (keysV ys)) := by
      funext z
      by_cases hz : z = b
      · rw [hz, upd_same, upd_ne (Ne.symm nbc), hr]
      · rw [upd_ne hz]
        by_cases hy : z = c
        · rw [hy, upd_same, upd_same]
        · rw [upd_ne hy, upd_ne hz, upd_ne hy]
    rw [eH]
    refine q c _ hcH (KpS.upd hcH) (S.st.upd hcH) (own_new hcH ?_)
    rw [ek, rk.keys]
    exact rep_keys _
  · refine .inl (h1 σ _ _ _ hp ⟨a, dx, fs, b, o, ys, rfl, ha, hg, hr, fun c hc => ?_⟩)
    refine q c _ hc (KpS.upd hc) (S.st.upd hc) (own_new hc ?_)
    rw [ek, rk.keys]
    exact rep_keys _
end
def fLIt (p : Ev → Option D) : FM D := fun s => match p s with
  | some (.dic kvs) => .ok (.lst (keysD kvs))
  | _ => .bad
theorem le_lIt {p : Ev → Option D} : ∀ xq s n Q, up (fLIt p) xq s n Q → eLIt p xq s n Q := fun xq s n Q h => by
  unfold up fLIt at h
  unfold eLIt
  split at h
  · next kvs e => exact ⟨kvs, e, h⟩
  · exact h.elim
theorem lItE {p : Ev → Option D} {s : Ev} {kvs : List (Key × D)} (h : p s = some (.dic kvs)) : fLIt p s = .ok (.lst (keysD kvs)) := by
  unfold fLIt
  rw [h]
theorem itPE {C g : Str} {p : Ev → Option D} {s : Ev} {fs : List (Str × D)} {d : D} (h : p s = some (.obj C fs)) (hg : fs.lookup g = some d) : itP C g p s = some d := by
  unfold itP
  rw [h]
  show (if C = C then fs.lookup g else none) = _
  rw [if_pos rfl]
  exact hg
end DL
namespace HX
open PySem L2 He
/-! the head's facts, with static methods -/
structure SaysS (P : Program) (fa : List Fa) (fn : List DefD) (er : List ErrD) (tf : List Defn) (ex : PySem.W.Frag → Bool) (sf : List He5.DefA) (w : World) (h : Heap) (K : PySem.W.Frag) : Prop extends SaysE P fa fn er tf ex w h K where
  sok : ∀ d ∈ sf, d.ok K = true
  sfn : sf.map (fnS K) = sf.map He5.DefA.val
theorem saysS_of {P : Program} {n : Nat} {fa : List Fa} {fn : List DefD} {er : List ErrD} {tf : List Defn} {ex : PySem.W.Frag → Bool} {sf : List He5.DefA} {w : World} {h : Heap} (e : obsS P n fa fn er tf ex sf h.get? = valS fn er sf) : SaysS P fa fn er tf ex sf w h (frT h.get? (asE h.get? n)) := by
  have e1 : obsE P n fa fn er tf ex h.get? = valE fn er := congrArg (fun z : AlS => z.1) e
  have e2 := congrArg (fun z : AlS => z.2.1) e
  have e3 := congrArg (fun z : AlS => z.2.2) e
  exact { saysE_of (w := w) e1 with sok := fun d hd => List.all_eq_true.mp e2 d hd, sfn := e3 }
def hookS (P : Program) (n : Nat) (fa : List Fa) (fn : List DefD) (er : List ErrD) (tf : List Defn) (ex : PySem.W.Frag → Bool) (sf : List He5.DefA) : PySem.W.Hook where
  α := AlS
  obs := fun s => obsS P n fa fn er tf ex sf s.heap.get?
  val := fun _ => valS fn er sf
  says := fun w h => ∃ K : PySem.W.Frag, K.In h ∧ SaysS P fa fn er tf ex sf w h K
  of := fun _ _ e => ⟨_, frT_in, saysS_of e⟩
  keeps := fun _ _ _ ⟨K, hK, c⟩ k => ⟨K, PySem.W.Frag.In.keeps hK k, { c with empty := fun p hp => k _ _ (c.empty p hp) }⟩
theorem obsS_eq {P : Program} {n : Nat} {fa : List Fa} {fn : List DefD} {er : List ErrD} {tf : List Defn} {ex : PySem.W.Frag → Bool} {sf : List He5.DefA} {g : Addr → Option Obj} {s : Shared} (h : ∀ a, g a = s.heap.get? a) : obsS P n fa fn er tf ex sf g = (hookS P n fa fn er tf ex sf).obs s := by
  cases (funext h : g = s.heap.get?)
  rfl
section
variable {X : Cx} {pins : List (Addr × Obj)} {σ : L2.St} {H : Hp} {s : Shared} {C f : Addr} {m : Str} {A : Around} {E : Value → Shared → Prop}
variable {CX : CXT} {k : Nat} {fd : FuncData} {ps : List Str} {sp : Sp} {EX : XK} {ds : List Value} {dvs : List V} {o e : Expr} {es : List Expr} {pos apos : Pos} {ta : TE} {t : TA} {pl : Sem Bool}
end
end HX
namespace DL
open PySem PySem.Spec PyProof.Rows L2
variable [TabC]
/-! ### defs called with some of their arguments, static methods, d.get(k) -/
section
variable {X : Cx} {E : XK} {O : List Nat} {e o : Expr} {es : List Expr} {ml : EM (List D)} {mo : EM D} {pos p apos : Pos} {x C m : Str} {ps : List Str} {k k' : Nat} {sp : FSp} {dds : List D}
end
end DL
/-! the def that tells whether what it got raises an error of one class -/
namespace TR
open PySem PySem.Spec PyProof.Rows L2
section
variable {X : Cx}
end
end TR
namespace DL
open PySem PySem.Spec PyProof.Rows L2 LamX TR
variable [TabC]
section
variable {X : Cx} {E : XK} {O : List Nat} {x C : Str} {params : Arguments} {body : Expr} {scope : Scope} {m : EM D} {k k' : Nat} {p lpos pos : Pos} {c P : Addr}
end
/-! as plain functions -/
def fTried (ok : OKF) (hs : HS) (O : List Nat) (f : FM D) : FM D := fun s => match f (hideL s O) with
  | .ok d => .ok (okD1 ok d)
  | .ex x => ofO ((hpick hs x.1).bind fun hv => hvD hv x.2)
  | .bad => .bad
theorem le_tried {ok : OKF} {hs : HS} {O : List Nat} {f : FM D} : ∀ xq s n Q, up (fTried ok hs O f) xq s n Q → eTried ok hs O (up f) xq s n Q := fun xq s n Q h => by
  refine ⟨fun x n' => ∃ hv d, hpick hs x.1 = some hv ∧ hvD hv x.2 = some d ∧ Q d n', fun d n' => Q (okD1 ok d) n', fun x n' z => z, fun d n' z => z, ?_⟩
  unfold up fTried at h
  unfold up
  cases e : f (hideL s O) with
  | ok d => rw [e] at h; exact h
  | ex x =>
    rw [e] at h
    obtain ⟨d, e1, q⟩ := wp_ofO h
    obtain ⟨hv, e2, e3⟩ := Option.bind_eq_some_iff.mp e1
    exact ⟨hv, d, e2, e3, q⟩
  | bad => rw [e] at h; exact h.elim
end DL
namespace DL
open PySem PySem.Spec PyProof.Rows L2 LamX
variable [TabC]
/-! ### defs that make lambdas: their code object is known -/
section
variable {P : Program} {w : World} {K : PySem.W.Frag} {mg : Str → Option Value} {base : Heap} {x qual : Str} {params : Arguments} {body : List Stmt} {scope : Scope} {dvs : List V} {kws : List (Str × V)} {f : Addr} {fd : FuncData}
theorem okC {CX : CXT} {N ps : List Str} {k : Nat} {sp : Sp} {p : He.Defn} (F : FunD K x qual params body scope dvs kws f fd) (hf : f = He.fAd K p) (S : FnScope N ps scope) (len : ∀ vs H Q E, sp vs H Q E → vs.length = ps.length)
    (hbody : ∀ (A : Around) (outer : List Env) (s : Shared) (H : Hp) (vs : List V) (Q : VK) (E : XK), Room k (A.deeper (envOfC qual scope s.heap.objs.size f (.ref (He.cT K p).1))) → sp vs H Q E →
      ∃ t, PSs (cxOf CX P w K mg base N qual scope f (.ref (He.cT K p).1) A outer s H E) body t ∧ t { nx := fun _ H' => Q .non H', rt := Q } (L2.start N vs) H) : FnOk P w K mg base CX (k + 1) f fd ps sp := by
  obtain ⟨oc, od, dV, kV, doc, pm, an, cdv, ct, osl, rfl, lk, hcd, _, _⟩ := F.ex
  have hc : cdv = .ref (He.cT K p).1 := by
    cases cdv with
    | ref c =>
      rw [hf] at lk
      show Value.ref c = .ref (He.codeOf K p)
      rw [He.codeOf_eq lk (c := c) rfl]
    | _ => cases hcd
  subst hc
  exact fn_of lk hcd S len fun A outer s H vs Q E hr hsp => hbody A outer s H vs Q E hr hsp
def BodyL (P : Program) (w : World) (K : PySem.W.Frag) (mg : Str → Option Value) (base : Heap) (N : List Str) (qual : Str) (scope : Scope) (k : Nat) (O O' : List Nat) (body : List Stmt) (m : SM) (c : Addr) : Prop :=
  ∀ (f : Addr) (A : Around) (outer : List Env) (s : Shared) (H : Hp) (E : XK), Room k (A.deeper (envOfC qual scope s.heap.objs.size f (.ref c))) → VSs (CxD P w K mg base N qual scope f (.ref c) A outer s H E) (EU H E) O O' [] body m
end
section
variable {P : Program} {w : World} {K : PySem.W.Frag} {mg : Str → Option Value} {base : Heap} {x : Str} {params : Arguments} {st : Stmt} {rest : List Stmt} {scope : Scope} {f : Addr} {fd : FuncData}
theorem law_topL {N : List Str} {k : Nat} {m : SM} {O' : List Nat} {p0 : He.Defn} (F : FunD K x x params (st :: rest) scope [] [] f fd) (hf : f = He.fAd K p0) (Sc : FnScope N ["_law_script"] scope) (hN : 2 ≤ N.length)
    (h1 : ∀ (cdv : Value) (A : Around) (outer : List Env) (s : Shared) (H : Hp) (E : XK), Room k (A.deeper (envOfC x scope s.heap.objs.size f cdv)) → PS (CxD P w K mg base N x scope f cdv A outer s H E) st (tFirst K))
    (hb : BodyL P w K mg base N x scope k [] O' rest m (He.cT K p0).1)
    (hm : m (fun _ _ => False) { nx := fun _ _ => False, rt := fun d _ => d = .bl true } (none :: some .st :: List.replicate (N.length - 2) none) 0) : FnOk P w K mg base (CX P w) (k + 1) f fd ["_law_script"] (spLaw K) := by
  refine okC F hf Sc (fun vs H Q E h => ?_) (fun A outer s H vs Q E hr h => ?_)
  · obtain ⟨a, ns, rfl, _⟩ := h
    rfl
  · obtain ⟨a, ns, rfl, hs, hT, hq⟩ := h
    obtain ⟨t, p, ft⟩ := hb f A outer s H E hr
    refine ⟨_, pss_cons (h1 _ A outer s H E hr) (pss_lock1 p), ?_⟩
    refine ⟨.ref a, rfl, a, ns, rfl, hs, fun l p cs H' hne hp hl kp hL hP => ?_⟩
    refine ⟨l, _, hL, trivial, fun od => ?_⟩
    obtain ⟨j, hj⟩ : ∃ j, N.length = j + 2 := ⟨N.length - 2, by omega⟩
    have es : (L2.start N [V.ref a]).set 1 (some (.ref p)) = some (.ref a) :: some (.ref p) :: List.replicate j none := by
      unfold L2.start
      have e : N.length - [V.ref a].length = j + 1 := by rw [hj]; rfl
      rw [e, List.replicate_succ]
      rfl
    show t _ ((L2.start N [V.ref a]).set 1 (some (.ref p))) _
    rw [es]
    have hj2 : N.length - 2 = j := by omega
    rw [hj2] at hm
    have hP' : upd H' l (.frz od (.lst (cs.map V.int))) p = some (.lst (l5 l 0 0 0 0)) := by rw [upd_ne (Ne.symm hne)]; exact hP
    have S : SR K p [] ⟨fun _ => False, none⟩ (upd H' l (.frz od (.lst (cs.map V.int)))) (some (.ref a) :: some (.ref p) :: List.replicate j none) (upd H' l (.frz od (.lst (cs.map V.int)))) (none :: some .st :: List.replicate j none) 0 := by
      refine ⟨by rw [List.length_cons, List.length_cons, List.length_cons, List.length_cons, List.length_replicate, List.length_replicate], fun i d e _ => ?_, (fun i hi => nomatch hi), (fun i j b hi => nomatch hi), KpS.refl, ⟨l, cs, 0, 0, 0, 0, hP', hne, ⟨od, upd_same⟩, by decide, by decide, by decide, by decide, by decide, by decide, tabs_poke ⟨hT.1.ext kp.1, fun b ps e => hT.2 b ps (kp.2 b ps e)⟩ hL (fun _ z => nomatch z) (fun _ _ z => by unfold LamX.CodeO at z; cases z)⟩, (fun a h => h.elim), (fun hi => nomatch hi)⟩
      match i, e with
      | 0, e => cases e
      | 1, e => cases e; exact ⟨_, rfl, by rw [Rep]⟩
      | i + 2, e =>
        have e : (List.replicate j (none : Option D))[i]? = some (some d) := e
        rw [List.getElem?_replicate] at e
        split at e <;> cases e
    refine ft p _ _ _ _ _ 0 (fun _ _ => False) _ _ S (fun _ _ _ _ _ _ _ _ z => z.elim) ?_ hm
    refine ⟨fun _ _ _ _ _ z => z.elim, fun v H'' d n kp st r e => ?_, fun _ _ _ _ _ z => z.elim, fun _ _ _ _ _ z => z.elim⟩
    have e : d = .bl true := e
    subst e
    rw [Rep] at r
    subst r
    exact hq H''
end
/-- new tables -/
theorem tabs_new {T : List (Addr × Str)} {H : Hp} (h : ∀ p ∈ T, H p.1 = some (.tbl #[])) : LamX.Tabs T H := fun p hp => ⟨#[], h p hp, trivial, fun pos cv hc => by cases hc⟩
end DL
namespace DL
open PySem PySem.Spec PyProof.Rows L2 LamX
variable [TabC]
theorem lam_tk {X : Cx} {A : Around} {outer : List Env} {s : Shared} {H : Hp} {E : XK} {scope : Scope} {f c' : Addr} : TK (lamCx X A outer s H E scope f c') (EU H E) := tk_eu (X := lamCx X A outer s H E scope f c') (takes_of rfl rfl rfl rfl)
end DL
namespace TR
open PySem PySem.Spec PyProof.Rows L2
/-! ### the clauses -/
section
variable {X : Cx} {a C : Addr} {oe : Obj} {cls : Value} {d : Option Addr} {pn : List (Addr × Obj)} {fd e f w : Str} {i j k1 k2 k3 : Nat} {q1 q2 q3 q4 q5 q6 q7 q8 : Pos}
theorem clause_fld (nd : X.N.Nodup) (hj : X.N[j]? = some fd) (hlf : X.env.scope.names.lookup fd = some .local) (hi : X.N[i]? = some e) (hle : X.env.scope.names.lookup e = some .local) (T : XfC X.K C) (hno : PySem.W.findIn X.K (.ref C) f = some none) (hz : Zc cls d oe) (hf : ∃ vs, oe.data = .fields vs)
    (hd : (e == ("__debug__" : Str)) = false := by decide) (hcd : (e == ("__classdict__" : Str)) = false := by decide)
    (hsw : swapsWith (.Tuple [.Constant (.str w) k1 q2, .Attribute (.Name e q3) f q4] k2 q5) (some (.Name fd q1)) q6.line (X.suite a ((a, oe) :: pn)).env = pure false := by rfl) (hb : attributeBase (.Name e q3) f X.env (eval (.Name e q3) X.env) = eval (.Name e q3) X.env := by rfl) :
    PSs (X.suite a ((a, oe) :: pn)) [.Assign [.Name fd q1] (.Tuple [.Constant (.str w) k1 q2, .Attribute (.Name e q3) f q4] k2 q5) q6] (tsOf X.K j (C, some i, .fld w f) a cls d) :=
  pss_one (ps_set (i := j) nd hj (.inl hlf) (pe_tup (pa_cons pe_str (pa_cons (pe_xf T hno hz hf (pe_var (X := X.suite a ((a, oe) :: pn)) hi (.inl hle) hd hcd) hb) pa_nil))) hsw (.inr hlf))
end
/-! ### without found = None ahead -/
section
variable {X : Cx}
end
end TR
namespace DL
open PySem PySem.Spec PyProof.Rows L2 LamX
variable [TabC]
theorem gtr_of {P : Program} {w : World} {K : PySem.W.Frag} {mg : Str → Option Value} {base : Heap} {x : Str} {params : Arguments} {body : List Stmt} {scope : Scope} {f : Addr} {fd : FuncData} {N : List Str} {a : Str} {ok : TR.OKF} {hs : HS} (F : FunD K x x params body scope [] [] f fd) (hg : mg x = some (.ref f)) (Sc : FnScope N [a] scope) (hb : BindOk x params body scope [a]) (h0 : N[0]? = some a) (h2n : 2 ≤ N.length) (hv : Vis scope a)
    (exm : ∀ e ∈ hs, ∀ e' ∈ hs, PySem.W.exmOne K (.ref (He.ga K e.1)) (.ref (He.ga K e'.1)) = some (decide (e'.1 = e.1)))
    (hG : ∀ (cdv : Value) (X : Cx), X.prog = P → X.w = w → X.K = K → X.mg = mg → X.base = base → ∀ q, GivesTo X N x scope f cdv body a q (TR.TTried K N ok (hsA K hs)))
    (h1 : (a == ("__debug__" : Str)) = false := by decide) (h2 : (a == ("__classdict__" : Str)) = false := by decide) : GTr P w K mg base x ok hs := by
  have b := F.bindsN hb
  obtain ⟨oc, od, dV, kV, doc, pm, an, cdv, ct, osl, rfl, lk, hcd, _, _⟩ := F.ex
  exact ⟨⟨N, a, scope, f, oc, od, params, body, dV, kV, doc, pm, an, cdv, ct, osl, hg, F.kp, lk, hcd, b, Sc, h0, h2n, hv, h1, h2, hG cdv⟩, exm⟩
end DL
namespace DL
open PySem PySem.Spec PyProof.Rows L2 LamX
variable [TabC]
section
variable {P : Program} {w : World} {K : PySem.W.Frag} {mg : Str → Option Value} {base : Heap} {x : Str} {params : Arguments} {body : List Stmt} {scope : Scope} {dvs : List V} {kws : List (Str × V)} {f : Addr} {fd : FuncData}
end
end DL
namespace DL
open PySem PySem.Spec PyProof.Rows L2 LamX
variable [TabC]
end DL
namespace DL
open PySem PySem.Spec PyProof.Rows L2
variable [TabC]
/-! ### isinstance(x, C), x an object of the own class C -/
theorem insB_ok {K : PySem.W.Frag} {C : Addr} (c : Cls K C) (h : insB K C = true) : C8.InsC K C := by
  unfold insB at h
  simp only [Bool.and_eq_true, decide_eq_true_eq] at h
  exact ⟨c, h.1, h.2.1, h.2.2.1, h.2.2.2.1, h.2.2.2.2⟩
section
variable {X : Cx} {E : XK} {O : List Nat} {e : Expr} {m : EM D} {pos : Pos}
end
def fIsC (C : Str) (a : FM D) : FM D := fun s => (a s).bind fun d => match d with
  | .obj C' _ => if C' = C then .ok (.bl true) else .bad
  | _ => .bad
end DL
namespace MD
open PySem PySem.Spec PyProof.Rows SeqAt
theorem ent_ci : entryFor table "proto.contains_iter" = some Builtin.«proto.contains_iter» := by kernel_rfl
theorem plain_ci : plainId "proto.contains_iter" = true := by decide +kernel
theorem quiet_ci {args : Args} : (Code.builtin "proto.contains_iter" args).quiet = true := plainId_quiet plain_ci args
theorem no_ci : typeLookup (Value.type "dict_values") (Str.ofString "__contains__") = pure none := by rfl
end MD
namespace MD
open PySem PySem.Spec PyProof.Rows SeqAt
/-! a value in d.values() -/
section
variable {P : Program} {w : World} {A : Around} {E : Value → Shared → Prop} {s : Shared} {k : NK} {key : Value} {d view it : Addr} {es : Array DictEntry} {ep : Nat} {ks : List NK}
/-- the values are such keys -/
structure Valued (h : Heap) (es : Array DictEntry) (ks : List NK) : Prop where
  len : es.size = ks.length
  at_ : ∀ (i : Nat) (e : DictEntry) (k : NK), es[i]? = some e → ks[i]? = some k → NestedIs h k e.val ∧ k.depth ≤ 8
theorem nk_kept {h h' : Heap} (q : ∀ b o, h.get? b = some o → h'.get? b = some o) {x : NK} {v : Value} (hx : NestedIs h x v) : NestedIs h' x v := NestedIs.at (fun a o _ _ h1 _ => q a o h1) _ _ hx
theorem ci_loop {R : Result → Shared → Prop} (hh : A.handled = none) (hu : A.units + 20 < cLine) (hn : s.heap.get? it = none) (hd : s.heap.DictRaw d es ep) (hvals : Valued s.heap es ks) (hk : NestedIs s.heap k key) (dk : k.depth ≤ 8)
    (hR : ∀ h' : Heap, (∀ b o, s.heap.get? b = some o → h'.get? b = some o) → R (.ok (.ret (.bool (decide (k ∈ ks))))) { s with heap := h' }) : ∀ (n i : Nat) (h' : Heap), i + n = es.size → h'.IsValIter it d i es.size ep → (∀ b o, s.heap.get? b = some o → h'.get? b = some o) → (∀ j : Nat, j < i → ks[j]? ≠ some k) → codeAny (model P w) A (.builtin "proto.contains_iter" ⟨[.ref it, key], []⟩) R { s with heap := h' }
  | 0, i, h', e, hi, kp, no => by
    have hd' : h'.DictRaw d es ep := let ⟨o, ho, r⟩ := hd; ⟨o, kp _ _ ho, r⟩
    refine codeAny_builtin ent_ci ?_
    show wpAny _ _ (pyNext (.ref it) >>= _) _ _ _
    refine wpAny_bind (wpAny_pyNext_values_end_raw (by exact hh) hi hd' (by omega) fun h2 kp2 => ?_)
    dsimp only
    refine wpAny_bind (wpAny_rule (wpAny_pure ?_))
    have hno : k ∉ ks := fun z => by
      obtain ⟨j, hj⟩ := List.mem_iff_getElem?.mp z
      have hl := (List.getElem?_eq_some_iff.mp hj).1
      rw [← hvals.len] at hl
      exact no j (by omega) hj
    have := hR h2 fun b o ho => kp2 b o (fun z => by rw [z, hn] at ho; cases ho) (kp b o ho)
    rw [decide_eq_false hno] at this
    exact this
  | n + 1, i, h', e, hi, kp, no => by
    have hd' : h'.DictRaw d es ep := let ⟨o, ho, r⟩ := hd; ⟨o, kp _ _ ho, r⟩
    have hlt : i < es.size := by omega
    have hlt2 : i < ks.length := by rw [← hvals.len]; exact hlt
    obtain ⟨v1, v2⟩ := hvals.at_ i _ _ (Array.getElem?_eq_getElem hlt) (List.getElem?_eq_getElem hlt2)
    refine codeAny_builtin ent_ci ?_
    show wpAny _ _ (pyNext (.ref it) >>= _) _ _ _
    refine wpAny_bind (wpAny_pyNext_values_item_raw hi hd' hlt fun h2 hi2 sb => ?_)
    have kp2 : ∀ b o, s.heap.get? b = some o → h2.get? b = some o := fun b o ho => by
      rw [sb.2 b (fun z => by rw [z, hn] at ho; cases ho)]
      exact kp b o ho
    dsimp only
    refine wpAny_bind (ask_eq (s := { s with heap := h2 }) ?_ (nk_kept kp2 v1) (nk_kept kp2 hk) v2 ?_)
    · show A.units + 1 + 8 < cLine
      omega
    refine ifw (fun z => ?_) fun z => ?_
    · refine wpAny_bind (wpAny_rule (wpAny_pure ?_))
      have hin : k ∈ ks := by
        have := of_decide_eq_true z
        rw [← this]
        exact List.getElem_mem hlt2
      have := hR h2 kp2
      rw [decide_eq_true hin] at this
      exact this
    · refine wpAny_pure ⟨quiet_ci, ?_⟩
      refine ci_loop hh hu hn hd hvals hk dk hR n (i + 1) h2 (by omega) hi2 kp2 fun j hj => ?_
      by_cases ej : j = i
      · subst ej
        intro z2
        rw [List.getElem?_eq_getElem hlt2] at z2
        exact of_decide_eq_false z (Option.some.inj z2)
      · exact no j (by omega)
theorem view_in {Q : Bool → Shared → Prop} (hh : A.handled = none) (hu : A.units + 20 < cLine) (hv : s.heap.IsValuesView view d) (hd : s.heap.DictRaw d es ep) (hvals : Valued s.heap es ks) (hk : NestedIs s.heap k key) (dk : k.depth ≤ 8)
    (h : ∀ h' : Heap, (∀ b o, s.heap.get? b = some o → h'.get? b = some o) → Q (decide (k ∈ ks)) { s with heap := h' }) : wpAny (model P w) A (contains (.ref view) key) Q E s := by
  have typ : s.TypeIs (.ref view) "dict_values" := let ⟨o, ho, hc, _⟩ := hv; ⟨o, ho, hc⟩
  unfold contains
  refine wpAny_holding (wpAny_bind (wpAny_specialOf typ no_ci ?_))
  refine ifw (fun z => by cases z) fun _ => ?_
  refine wpAny_bind (wpAny_callSpecialUnlessNone?_none typ no_ci ?_)
  dsimp only
  refine wpAny_bind (wpAny_rule ?_)
  refine wpAny_bind (wpAny_tryCatch (wpAny_pyIter_values_raw hv hd ?_))
  refine wpAny_bind (wpAny_runValue ?_)
  have hn : s.heap.get? s.heap.objs.size = none := Heap.get?_none_of_le (Nat.le_refl _)
  refine ci_loop (s := s) (it := s.heap.objs.size) hh hu hn hd hvals hk dk (fun h' kp => ?_) es.size 0 _ (by omega) ⟨_, Heap.get?_push_size _ rfl, rfl, rfl⟩ (fun b o ho => ?_) (fun j hj => absurd hj (Nat.not_lt_zero _))
  · exact wpAny_pure (h h' kp)
  · exact Heap.get?_push_of_some _ ho
end
end MD
namespace MD
open L2 PySem PySem.Spec PyProof.Rows SeqAt
/-! d.values(): the view is laid -/
def viewO (a d : Addr) : HO := .ext fun h => h.IsValuesView a d
theorem viewO_ok {P : Program} {w : World} {H : Hp} {h : Heap} {a d : Addr} (e : h.IsValuesView a d) : ObjOk P w H h a (viewO a d) := ⟨e, let ⟨o, ho, _⟩ := e; ⟨o, ho⟩, fun h1 h2 z k => let ⟨o, ho, r⟩ := z; ⟨o, k _ ho, r⟩⟩
theorem viewO_at {P : Program} {w : World} {H : Hp} {h : Heap} {a d : Addr} (ok : HOk P w H h) (e : H a = some (viewO a d)) : h.IsValuesView a d := (ok a _ e).1
section
variable {X : Cx}
theorem dk_rd {P : Program} {w : World} {H : Hp} {h : Heap} {a : Addr} {kvs : List (Key × V)} (ok : HOk P w H h) (e : Rd H a (.dK kvs)) : kvs.length ≤ sizeLine ∧ (a == sysModules) = false ∧ ∃ vs, KV kvs vs ∧ Heap.DictOf (mixKind P w) h a vs := rd_of ok e
def rVals : V → List V → Hp → VK → Prop := fun x xs H Q => ∃ d kvs, x = .ref d ∧ xs = [] ∧ Rd H d (.dK kvs) ∧ ∀ a, H a = none → Q (.ref a) (upd H a (viewO a d))
theorem mt_values : MtR X "dict.values" rVals := fun pins s σ H x xs v us Q I rx rxs ⟨d, kvs, ex, exs, rd, q⟩ => by
  subst ex exs
  cases rx
  cases rxs
  obtain ⟨z, hd, vs, rel, ob, es, ep, ho, hc, hdat, hk, hp, hn⟩ := dk_rd I.hok rd
  refine call_meetsIn PySem.F.slot_dict_values ⟨ob, ho, hc.1⟩ PySem.F.entry_dict_values (PySem.F.args_dict_values_1 _) (meets_dict_values_raw d hd) ⟨⟨es, ep, ob, ho, hc, hdat⟩, ?_⟩
  refine ⟨.ref s.heap.objs.size, _, I.laid (t' := s.toks) (a := s.heap.objs.size) (o := viewO s.heap.objs.size d) (fun b o z => Heap.get?_push_of_some _ z) (Nat.le_refl _) (viewO_ok ⟨_, Heap.get?_push_size _ rfl, rfl, rfl⟩), rfl, q _ (I.hok.fresh (Nat.le_refl _))⟩
/-- the values as such keys -/
def VKeys (K : PySem.W.Frag) (H : Hp) (ys : List (Key × V)) (ks : List NK) : Prop := ys.length = ks.length ∧ ∀ (i : Nat) (y : Key × V) (k : NK), ys[i]? = some y → ks[i]? = some k → KeyV K H k y.2 ∧ k.depth ≤ 8
theorem vals_at {P : Program} {w : World} : ∀ {es : List DictEntry} {vs : List (Key × Value)} {kvs : List (Key × V)}, Pairs (mixKind P w) es vs → KV kvs vs → es.length = kvs.length ∧ ∀ (i : Nat) (e : DictEntry) (y : Key × V), es[i]? = some e → kvs[i]? = some y → RelV y.2 e.val
  | _, _, _, .nil, .nil => ⟨rfl, fun i e y h => by simp at h⟩
  | _, _, _, .cons (e := e) (kv := kv) h1 h2 t, .cons (a := p) r tr => by
    obtain ⟨l, q⟩ := vals_at t tr
    refine ⟨by rw [List.length_cons, List.length_cons, l], fun i e' y a b => ?_⟩
    cases i with
    | zero =>
      cases a
      cases b
      rw [h2]
      exact r.2
    | succ i => exact q i e' y a b
theorem valued {pins : List (Addr × Obj)} {σ : L2.St} {H : Hp} {s : Shared} {ys : List (Key × V)} {vs : List (Key × Value)} {es : Array DictEntry} {ks : List NK} (I : Inv X pins σ H s) (hp : Pairs (mixKind X.prog X.w) es.toList vs) (rel : KV ys vs) (vk : VKeys X.K H ys ks) : Valued s.heap es ks := by
  obtain ⟨l, q⟩ := vals_at hp rel
  refine ⟨by rw [← vk.1, ← l, Array.length_toList], fun i e k h1 h2 => ?_⟩
  have hi : i < ys.length := by
    rw [vk.1]
    exact (List.getElem?_eq_some_iff.mp h2).1
  have hy := List.getElem?_eq_getElem hi
  obtain ⟨g1, g2⟩ := vk.2 i _ k hy h2
  exact ⟨KeyV.nested I k _ _ g1 (q i e _ (by rw [Array.getElem?_toList]; exact h1) hy), g2⟩
def rView (K : PySem.W.Frag) (neg : Bool) : R2 := fun x y H Q => ∃ a d ys ks k, y = .ref a ∧ H a = some (viewO a d) ∧ Rd H d (.dK ys) ∧ VKeys K H ys ks ∧ KeyV K H k x ∧ k.depth ≤ 8 ∧ Q (.bl (if neg = true then !decide (k ∈ ks) else decide (k ∈ ks))) H
theorem op_view {neg : Bool} (hc : X.calm = true) (hu : X.A.units + 20 < cLine) : OpR X (compareOp (if neg = true then .NotIn else .In)) (rView X.K neg) :=
  fun pins s σ H x y v u Q I rx ry ⟨a, d, ys, ks, k, ey, ea, rd, vk, kk, dk, q⟩ => by
    subst ey
    cases ry
    obtain ⟨z, hd, vs, rel, ob, es, ep, ho, hcl, hdat, hk, hp, hn⟩ := dk_rd I.hok rd
    have key : ∀ b : Bool, (∀ h' : Heap, (∀ b o, s.heap.get? b = some o → h'.get? b = some o) → EP X pins σ Q (.bool (if b = true then !decide (k ∈ ks) else decide (k ∈ ks))) { s with heap := h' }) → wpAny (model X.prog X.w) X.A (compareOp (if b = true then .NotIn else .In) v (.ref a)) (EP X pins σ Q) X.xe s := fun b h => by
      cases b with
      | true =>
        show wpAny _ _ (contains (.ref a) v >>= _) _ _ _
        exact wpAny_bind (view_in (I.ok.hd hc) hu (viewO_at I.hok ea) ⟨ob, ho, hcl, hdat⟩ (valued I hp rel vk) (KeyV.nested I k _ _ kk rx) dk fun h' kp => wpAny_pure (h h' kp))
      | false =>
        show wpAny _ _ (contains (.ref a) v >>= _) _ _ _
        exact wpAny_bind (view_in (I.ok.hd hc) hu (viewO_at I.hok ea) ⟨ob, ho, hcl, hdat⟩ (valued I hp rel vk) (KeyV.nested I k _ _ kk rx) dk fun h' kp => wpAny_pure (h h' kp))
    exact key neg fun h' kp => ⟨.bl _, H, I.kept (t' := s.toks) kp, rfl, q⟩
def tVals (td : TE) : TE := fun σ H Q => td σ H fun x H1 => rVals x [] H1 Q
theorem pe_vals {e : Expr} {td : TE} {apos cpos : Pos} (he : PE X e td) (hbase : attributeBase e "values" X.env (eval e X.env) = eval e X.env) (hline : (apos.endLine == cpos.line) = true) : PE X (.Call (.Attribute e "values" apos) [] [] cpos) (tVals td) :=
  ⟨fun pins s σ H Q I q => wpAny_Call_method hbase rfl hline PySem.F.plainAttrs_dict PySem.F.slot_dict_values rfl (thn (he.run pins s σ H _ I q) fun u s1 ⟨x, H1, I1, rx, d, kvs, ex, exs, rd, q1⟩ => by
    subst ex
    obtain rfl : u = Value.ref d := rx
    obtain ⟨z, hd, vs, rel, ob, es, ep, ho, hc, hdat, hk, hp, hn⟩ := dk_rd I1.hok rd
    exact ⟨⟨ob, ho, hc.1⟩, (fun a ea => by cases ea; exact ⟨ob, ho, hc.2.1⟩), callWith_method0 (mt_values pins s1 σ H1 (.ref d) [] (.ref d) [] Q I1 rfl .nil ⟨d, kvs, rfl, rfl, rd, q1⟩)⟩)⟩
end
end MD
namespace DL
open PySem PySem.Spec PyProof.Rows L2 MD
variable [TabC]
/-! x in d.values(), x not in d.values() -/
def nkD : D → Option NK
  | .int i => some (.num i)
  | .str x => some (.text x)
  | .non => some .none
  | _ => none
def ksD : List (Key × D) → Option (List NK)
  | [] => some []
  | kv :: r => (nkD kv.2).bind fun k => (ksD r).map (k :: ·)
def dValIn (neg : Bool) (x : D) (kvs : List (Key × D)) : Option D := (nkD x).bind fun k => (ksD kvs).map fun ks => .bl (if neg = true then !decide (k ∈ ks) else decide (k ∈ ks))
section
variable {K : PySem.W.Frag} {aS : Addr} {H : Hp} {A : AS}
theorem nk_rep {d : D} {v : V} {k : NK} (r : RepB K aS H A d v) (e : nkD d = some k) : KeyV K H k v ∧ k.depth ≤ 8 := by
  cases d <;> simp only [nkD, Option.some.injEq, reduceCtorEq] at e
  · subst e
    rw [repB_non r]
    exact ⟨by rw [KeyV], by simp [NestedKey.depth]⟩
  · subst e
    rw [repB_int r]
    exact ⟨by rw [KeyV], by simp [NestedKey.depth]⟩
  · subst e
    rw [repB_str r]
    exact ⟨by rw [KeyV], by simp [NestedKey.depth]⟩
theorem ks_rep (hA : A aS) : ∀ {kvs : List (Key × D)} {ys : List (Key × V)} {ks : List NK}, RepK K aS H A kvs ys → ksD kvs = some ks → VKeys K H ys ks
  | [], ys, ks, h, e => by
    rw [RepK] at h
    subst h
    cases e
    exact ⟨rfl, fun i y k h => by simp at h⟩
  | (k', d) :: kvs, ys, ks, h, e => by
    rw [RepK] at h
    obtain ⟨v', vr, ev, r, q⟩ := h
    subst ev
    have e : (nkD d).bind (fun k => (ksD kvs).map (k :: ·)) = some ks := e
    cases e1 : nkD d with
    | none => rw [e1] at e; cases e
    | some k =>
      rw [e1] at e
      cases e2 : ksD kvs with
      | none => rw [e2] at e; cases e
      | some kr =>
        rw [e2] at e
        cases e
        obtain ⟨l, g⟩ := ks_rep hA q e2
        refine ⟨by rw [List.length_cons, List.length_cons, l], fun i y k2 h1 h2 => ?_⟩
        cases i with
        | zero =>
          cases h1
          cases h2
          exact nk_rep (r.b hA) e1
        | succ i => exact g i y k2 h1 h2
end
section
variable {X : Cx} {E : XK} {O : List Nat} {a e : Expr} {ma : EM D} {p : Ev → Option D} {apos cpos pos : Pos}
def dValInD (neg : Bool) : D → D → Option D
  | x, .dic kvs => dValIn neg x kvs
  | _, _ => none
end
end DL
namespace DL
open PySem PySem.Spec PyProof.Rows L2
variable [TabC]
/-! within a test what slots own may be met: the test tells no thing -/
section
variable {X : Cx} {E : XK} {O O' : List Nat} {e : Expr} {m : EM Bool}
end
section
variable {X : Cx} {E : XK} {O O' : List Nat} {e : Expr} {m : EM D}
end
/-! flat forms -/
end DL
/-! objects of an own class beside other things: == and isinstance -/
namespace DL
open PySem PySem.Spec PyProof.Rows L2
variable [TabC]
section
variable {X : Cx} {E : XK} {O : List Nat} {a b : Expr} {mo me : EM D} {pos : Pos} {C : Str} {ps : List Str} {k k' : Nat} {sp : FSp}
end
/-! isinstance -/
end DL
namespace DL
open PySem PySem.Spec PyProof.Rows L2
variable [TabC]
/-! == and != of an own object and None, a plain dict, or one of its class -/
section
variable {X : Cx} {C : Addr}
theorem looks_cls {M : Model} {h : Heap} {a : Addr} {o : Obj} {T : String} (e : h.get? a = some o) (hc : o.cls = .type T) : PySem.W.Looks M h (typeOf (.ref a)) (.type T) := fun A Q E s k q => wpAny_typeOf ⟨o, k _ _ e, hc⟩ q
theorem looks_none {M : Model} {h : Heap} : PySem.W.Looks M h (typeOf .none) (.type "NoneType") := fun A Q E s k q => wpAny_typeOf (show s.TypeIs .none "NoneType" from rfl) q
/-- what the class C is to None and dict -/
structure EqU (K : PySem.W.Frag) (C : Addr) : Prop where
  n1 : PySem.W.notFirst K C (.type "NoneType") = true
  d1 : PySem.W.notFirst K C (.type "dict") = true
  n2 : PySem.W.mroIn K C (.type "NoneType") = some false
  d2 : PySem.W.mroIn K C (.type "dict") = some false
def OthU (C : Addr) (H : Hp) (y : V) : Prop := y = .non ∨ (∃ d kvs, y = .ref d ∧ Rd H d (.dK kvs)) ∨ ∃ b dy gs, y = .ref b ∧ H b = some (.ins C dy gs)
theorem oth_type {pins : List (Addr × Obj)} {σ : L2.St} {H : Hp} {s : Shared} {y : V} {u : Value} (U : EqU X.K C) (I : L2.Inv X pins σ H s) (h : OthU C H y) (r : RelV y u) : ∃ tb, PySem.W.Looks (model X.prog X.w) s.heap (typeOf u) tb ∧ PySem.W.notFirst X.K C tb = true := by
  rcases h with rfl | ⟨d, kvs, rfl, rd⟩ | ⟨b, dy, gs, rfl, hb⟩
  · cases r
    exact ⟨_, looks_none, U.n1⟩
  · cases r
    obtain ⟨z, hd, vs, rel, dict⟩ := MD.dk_rd I.hok rd
    obtain ⟨o, ho, hc⟩ := dict.typeIs (s := s)
    exact ⟨_, looks_cls ho hc, U.d1⟩
  · cases r
    obtain ⟨mB, J', _⟩ := ins_get I.hok hb
    obtain ⟨od', J', _⟩ := J'.look
    exact ⟨_, J'.type, by simp [PySem.W.notFirst]⟩
end
section
variable {X : Cx} {CX : CXT} {C f : Addr} {fd : FuncData} {ps : List Str} {sp : Sp} {E : XK} {k : Nat}
def rOwnU (C : Addr) (sp : Sp) (E : XK) : R2 := fun x y H Q => (∃ a dx fs, x = .ref a ∧ H a = some (.ins C dx fs)) ∧ OthU C H y ∧ sp [x, y] H Q E
theorem op_eqU (U : EqU X.K C) (M : Meth X.K C "__eq__" f) (F : FnOk X.prog X.w X.K X.mg X.base CX k f fd ps sp) (hr : Room k X.A) (hb : Binds X.K fd ps []) (hx : Passes CX X E) : OpR X (compareOp .Eq) (rOwnU C sp E) := by
  intro pins s σ H x y v u Q I rx ry h
  obtain ⟨⟨a, dx, fs, rfl, ha⟩, ho, h⟩ := h
  obtain ⟨tb, lt, nf⟩ := oth_type U I ho ry
  have rr : Vals [V.ref a, y] [v, u] := .cons rx (.cons ry .nil)
  cases rx
  obtain ⟨mA, J, _⟩ := ins_get I.hok ha
  obtain ⟨od, J, _⟩ := J.look
  obtain ⟨m, hF⟩ := I.fr
  show wpAny (model X.prog X.w) X.A (richCompare .Eq _ _) (EP X pins σ Q) X.xe s
  exact PySem.W.cmp_K (op := .Eq) (tb := tb) hr.units0 hF I.ok.mod.kin J lt nf M.at_ M.fn (wpAny_mono (run_in0 F hr hb hx I rr h) (fun _ _ q => ep_back q) fun _ _ z => z)
/-- the other way round -/
def OthR (H : Hp) (y : V) : Prop := y = .non ∨ (∃ d kvs, y = .ref d ∧ Rd H d (.dK kvs))
def rOwnR (C : Addr) (sp : Sp) (E : XK) : R2 := fun y x H Q => (∃ a dx fs, x = .ref a ∧ H a = some (.ins C dx fs)) ∧ OthR H y ∧ sp [x, y] H Q E
theorem none_off {A : Around} {P : Program} {w : World} {E : Value → Shared → Prop} {s : Shared} {x : Addr} {Q : Option Value → Shared → Prop} (h : Q none s) : wpAny (model P w) A (tryCompare .none (cmpInfo .Eq).2.1 (.ref x)) Q E s :=
  wpAny_tryCompare_declines (T := "NoneType") rfl PySem.F.slot_NoneType_eq (call_gives PySem.F.slot_NoneType_eq rfl PySem.F.entry_NoneType_eq (PySem.F.args_NoneType_eq_2 _ _) (PySem.SeqAt.NoneType___eq___none_ref_0 x) ⟨rfl, h⟩)
theorem dict_off {A : Around} {P : Program} {w : World} {E : Value → Shared → Prop} {s : Shared} {d x : Addr} {Q : Option Value → Shared → Prop} (hd : s.TypeIs (.ref d) "dict") (hi : PySem.W.Looks (model P w) s.heap (isInstance (.ref x) (.type "dict")) false) (h : Q none s) :
    wpAny (model P w) A (tryCompare (.ref d) (cmpInfo .Eq).2.1 (.ref x)) Q E s := by
  refine wpAny_tryCompare_declines (T := "dict") hd PySem.F.slot_dict_eq ?_
  refine wpAny_call_entry PySem.F.slot_dict_eq hd PySem.F.entry_dict_eq ?_ (PySem.F.args_dict_eq_2 _ _)
  unfold Builtin.«dict.__eq__»
  show wpAny _ _ (Builtin.Dict.dictSlotArgs "__eq__" ⟨[.ref d, .ref x], []⟩ >>= _) _ _ s
  refine wpAny_bind ?_
  unfold Builtin.Dict.dictSlotArgs
  refine wpAny_bind (wpAny_pure ?_)
  refine wpAny_bind (wpAny_pure (wpAny_pure ?_))
  refine wpAny_bind (hi.here ?_)
  refine wpAny_ite_split (fun _ => ?_) (fun z => absurd rfl z)
  exact wpAny_bind (wpAny_rule (wpAny_bind (wpAny_pure (wpAny_pure ⟨_, rfl, rfl, h⟩))))
theorem rc_rev {A : Around} {P : Program} {w : World} {K : PySem.W.Frag} {E : Value → Shared → Prop} {s : Shared} {x C f : Addr} {ox : Obj} {od : Option Obj} {u : Value} {T : String} {Q : Value → Shared → Prop} (hu : A.units < cLine) (X : K.In s.heap) (I : PySem.W.InstAt s.heap x ox C od) (hT : s.TypeIs u T)
    (hm : PySem.W.mroIn K C (.type T) = some false) (hs : PySem.W.findIn K (.ref C) "__eq__" = some (some (.ref f))) (hf : PySem.W.isFn K (.ref f) = true)
    (hoff : ∀ Q' : Option Value → Shared → Prop, Q' none s → wpAny (model P w) A (tryCompare u (cmpInfo .Eq).2.1 (.ref x)) Q' E s)
    (h : wpAny (model P w) A (call (.ref f) [.ref x, u]) (PySem.W.CmpBack Q) E s) : wpAny (model P w) A (richCompare .Eq u (.ref x)) Q E s := by
  have one : wpAny (model P w) A (tryCompare (.ref x) (cmpInfo .Eq).2.2 u) (fun r s' => ∃ v, r = some v ∧ Q v s') E s := by
    unfold tryCompare
    exact wpAny_bind (PySem.W.ifBound_K X I hs hf (wpAny_mono h (fun v s' back => by cases v <;> first | exact back.elim | exact wpAny_pure ⟨_, rfl, back⟩) fun _ _ z => z))
  unfold richCompare
  rw [hT.oneThing_none]
  refine wpAny_holding (wpAny_bind (wpAny_cRoomFor hu (wpAny_bind (wpAny_typeOf hT (wpAny_bind (I.type.here ?_))))))
  have hne : (Value.type T != Value.ref C) = true := rfl
  dsimp only
  rw [if_pos hne]
  refine wpAny_bind ((PySem.W.looks_mroIn X hm).here ?_)
  rw [if_neg Bool.false_ne_true]
  refine wpAny_bind (hoff _ (wpAny_bind (wpAny_mono one (fun r s' z => ?_) fun _ _ z => z)))
  rcases z with ⟨v, rfl, hq⟩
  exact wpAny_pure hq
theorem op_eqR (U : EqU X.K C) (M : Meth X.K C "__eq__" f) (F : FnOk X.prog X.w X.K X.mg X.base CX k f fd ps sp) (hr : Room k X.A) (hb : Binds X.K fd ps []) (hx : Passes CX X E) : OpR X (compareOp .Eq) (rOwnR C sp E) := by
  intro pins s σ H y x u v Q I ry rx h
  obtain ⟨⟨a, dx, fs, rfl, ha⟩, ho, h⟩ := h
  have rr : Vals [V.ref a, y] [v, u] := .cons rx (.cons ry .nil)
  cases rx
  obtain ⟨mA, J, _⟩ := ins_get I.hok ha
  obtain ⟨od, J, _⟩ := J.look
  have back := wpAny_mono (run_in0 F hr hb hx I rr h) (fun _ _ q => ep_back q) fun _ _ z => z
  show wpAny (model X.prog X.w) X.A (richCompare .Eq _ _) (EP X pins σ Q) X.xe s
  rcases ho with rfl | ⟨d, kvs, rfl, rd⟩
  · cases ry
    exact rc_rev (T := "NoneType") hr.units0 I.kIn J rfl U.n2 M.at_ M.fn (fun Q' q => none_off q) back
  · cases ry
    obtain ⟨z, hd, vs, rel, dict⟩ := MD.dk_rd I.hok rd
    exact rc_rev (T := "dict") hr.units0 I.kIn J dict.typeIs U.d2 M.at_ M.fn (fun Q' q => dict_off dict.typeIs (J.type.andThen (PySem.W.looks_mroIn I.kIn U.d2)) q) back
/-! x != y -/
/-- x's own method is asked first, and answers -/
theorem rc_first {op : CmpOp} {A : Around} {P : Program} {w : World} {K : PySem.W.Frag} {E : Value → Shared → Prop} {s : Shared} {x C : Addr} {ox : Obj} {od : Option Obj} {b tb : Value} {Q : Value → Shared → Prop} (hu : A.units < cLine) (X : K.In s.heap) (I : PySem.W.InstAt s.heap x ox C od) (hb : PySem.W.Looks (model P w) s.heap (typeOf b) tb) (nf : PySem.W.notFirst K C tb = true)
    (one : wpAny (model P w) A (tryCompare (.ref x) (cmpInfo op).2.1 b) (fun r s' => ∃ v, r = some v ∧ Q v s') E s) : wpAny (model P w) A (richCompare op (.ref x) b) Q E s := by
  unfold richCompare
  rw [oneThing_ref]
  refine wpAny_holding (wpAny_bind (wpAny_cRoomFor hu (wpAny_bind (I.type.here (wpAny_bind (hb.here ?_))))))
  dsimp only
  by_cases q : (Value.ref C != tb) = true
  · have e : PySem.W.subIn K tb (.ref C) = some false := (Bool.or_eq_true_iff.mp nf).elim (fun z => absurd q (by rw [beq_iff_eq.mp z]; simp)) beq_iff_eq.mp
    rw [if_pos q]
    refine wpAny_bind ((PySem.W.looks_subIn X e).here ?_)
    rw [if_neg Bool.false_ne_true]
    exact wpAny_bind (wpAny_mono one (fun r s' ⟨v, e, hq⟩ => by subst e; exact wpAny_pure hq) fun _ _ z => z)
  · rw [if_neg q]
    refine wpAny_bind (wpAny_pure ?_)
    rw [if_neg Bool.false_ne_true]
    exact (wpAny_bind (wpAny_mono one (fun r s' ⟨v, e, hq⟩ => by subst e; exact wpAny_pure hq) fun _ _ z => z))
theorem ne_ownU {A : Around} {P : Program} {w : World} {K : PySem.W.Frag} {E : Value → Shared → Prop} {s : Shared} {x C f : Addr} {ox : Obj} {od : Option Obj} {b tb : Value} {Q : Value → Shared → Prop} (hu : A.units + 1 < cLine) (X : K.In s.heap) (I : PySem.W.InstAt s.heap x ox C od) (hb : PySem.W.Looks (model P w) s.heap (typeOf b) tb) (nf : PySem.W.notFirst K C tb = true)
    (hn : PySem.W.findIn K (.ref C) "__ne__" = some (some (.builtin "object.__ne__"))) (he : PySem.W.findIn K (.ref C) "__eq__" = some (some (.ref f))) (hf : PySem.W.isFn K (.ref f) = true) (hm : PySem.W.mroIn K C (.type "object") = some true)
    (h : wpAny (model P w) A.in1 (call (.ref f) [.ref x, b]) (fun v s' => ∃ c, v = .bool c ∧ Q (.bool (!c)) s') E s) : wpAny (model P w) A (richCompare .NotEq (.ref x) b) Q E s := by
  have hi : PySem.W.Looks (model P w) s.heap (isInstance (.ref x) (.type "object")) true := I.type.andThen (PySem.W.looks_mroIn X hm)
  have one : wpAny (model P w) A (tryCompare (.ref x) (cmpInfo .NotEq).2.1 b) (fun r s' => ∃ v, r = some v ∧ Q v s') E s := by
    unfold tryCompare
    refine wpAny_bind ?_
    simp only [callSpecialIfBound?, bindSpecialIfBound?]
    refine wpAny_holding (wpAny_bind (wpAny_bind (wpAny_bind (I.type.here ((PySem.W.looks_findIn X hn).here ?_)))))
    simp only [on_bind]
    have fin : ∀ R : Option Value → Shared → Prop, (∀ c s', Q (.bool (!c)) s' → R (some (.bool (!c))) s') → wpAny (model P w) A (call (.builtin "object.__ne__") ([.ref x] ++ [b]) >>= fun v => pure (some v)) R E s := fun R hR => by
      refine wpAny_bind (wpAny_call (codeAny_call_builtin (by decide +kernel) PySem.F.cmpEntry_ne (PySem.W.check_slot PySem.F.cmpKind_ne PySem.F.cmpSplit_ne hi (PySem.F.cmpArgs_ne _ _) (on_entry (A := A.in1) hu X I he hf (wpAny_mono h (fun v s' hv => ?_) fun _ _ e => e)))))
      obtain ⟨c, rfl, hq⟩ := hv
      exact ⟨c, rfl, wpAny_pure (hR c _ hq)⟩
    refine wpAny_bind (wpAny_askSetting (wpAny_ite ?_))
    split
    · exact wpAny_bind (wpAny_pure (wpAny_pure (fin _ fun c s' hq => wpAny_pure ⟨_, rfl, hq⟩)))
    · exact wpAny_tryCatch (wpAny_bind (wpAny_pure (wpAny_pure (fin _ fun c s' hq => wpAny_pure ⟨_, rfl, hq⟩))))
  exact rc_first (Nat.lt_of_succ_lt hu) X I hb nf one
def rOwnNeU (C : Addr) (sp : Sp) (E : XK) : R2 := fun x y H Q => (∃ a dx fs, x = .ref a ∧ H a = some (.ins C dx fs)) ∧ OthU C H y ∧ sp [x, y] H (fun v H' => ∃ c, v = .bl c ∧ Q (.bl (!c)) H') E
theorem op_neU (U : EqU X.K C) (M : Meth X.K C "__eq__" f) (N : NeOk X.K C) (F : FnOk X.prog X.w X.K X.mg X.base CX k f fd ps sp) (hr : Room (k + 1) X.A) (hb : Binds X.K fd ps []) (hx : Passes CX X E) : OpR X (compareOp .NotEq) (rOwnNeU C sp E) := by
  intro pins s σ H x y v u Q I rx ry h
  obtain ⟨⟨a, dx, fs, rfl, ha⟩, ho, h⟩ := h
  obtain ⟨tb, lt, nf⟩ := oth_type U I ho ry
  have rr : Vals [V.ref a, y] [v, u] := .cons rx (.cons ry .nil)
  cases rx
  obtain ⟨mA, J, _⟩ := ins_get I.hok ha
  obtain ⟨od, J, _⟩ := J.look
  show wpAny (model X.prog X.w) X.A (richCompare .NotEq _ _) (EP X pins σ Q) X.xe s
  refine ne_ownU hr.in1.units0 I.kIn J lt nf N.ne M.at_ M.fn N.mro (wpAny_mono (run_in1 F hr hb hx I rr h) (fun v s' q => ?_) fun _ _ z => z)
  obtain ⟨z, H', I', r, c, rfl, q⟩ := q
  cases r
  exact ⟨c, rfl, .bl (!c), H', I', rfl, q⟩
end
/-! over data -/
def othD (C : Str) : D → Bool
  | .non => true
  | .dic _ => true
  | .obj C1 _ => decide (C1 = C)
  | _ => false
theorem oth_rep {K : PySem.W.Frag} {aS : Addr} {H : Hp} {A : AS} {C : Str} {d : D} {v : V} (h : othD C d = true) (r : Rep K aS H A d v) : OthU (He.ga K C) H v := by
  cases d with
  | non =>
    refine .inl ?_
    simpa only [Rep] using r
  | dic kvs =>
    rw [Rep] at r
    obtain ⟨a, ys, e, na, rd, rk⟩ := r
    exact .inr (.inl ⟨a, ys, e, rd⟩)
  | obj C1 fs =>
    have e := of_decide_eq_true h
    subst e
    rw [Rep] at r
    obtain ⟨a, dx, ys, e, na, hq, rf⟩ := r
    exact .inr (.inr ⟨a, dx, ys, e, hq⟩)
  | _ => cases h
def nobj : D → Bool
  | .non => true
  | .dic _ => true
  | _ => false
theorem oth_repR {K : PySem.W.Frag} {aS : Addr} {H : Hp} {A : AS} {d : D} {v : V} (h : nobj d = true) (r : Rep K aS H A d v) : OthR H v := by
  cases d with
  | non =>
    refine .inl ?_
    simpa only [Rep] using r
  | dic kvs =>
    rw [Rep] at r
    obtain ⟨a, ys, e, na, rd, rk⟩ := r
    exact .inr ⟨a, ys, e, rd⟩
  | _ => cases h
def eEqU (C : Str) (sp : FSp) (mo me : EM D) : EM D := fun xq s n Q => mo xq s n fun d n1 => me xq s n1 fun y n2 => (∃ fs, d = .obj C fs) ∧ othD C y = true ∧ sp.run [d, y] n2 Q xq
/-- the own object stands on the right -/
def eEqR (C : Str) (sp : FSp) (me mo : EM D) : EM D := fun xq s n Q => me xq s n fun y n1 => mo xq s n1 fun d n2 => (∃ fs, d = .obj C fs) ∧ othD C y = true ∧ (nobj y = false → sp.run [y, d] n2 Q xq) ∧ (nobj y = true → sp.run [d, y] n2 Q xq)
def eNeU (C : Str) (sp : FSp) (mo me : EM D) : EM D := fun xq s n Q => mo xq s n fun d n1 => me xq s n1 fun y n2 => (∃ fs, d = .obj C fs) ∧ othD C y = true ∧ sp.run [d, y] n2 (fun r n' => ∃ c, r = .bl c ∧ Q (.bl (!c)) n') xq
section
variable {X : Cx} {E : XK} {O : List Nat} {a b : Expr} {mo me : EM D} {pos : Pos} {C : Str} {ps : List Str} {k k' : Nat} {sp : FSp}
end
/-! flat forms -/
def isC (C : Str) : D → Bool
  | .obj C1 _ => decide (C1 = C)
  | _ => false
theorem isC_obj {C : Str} {d : D} (h : isC C d = true) : ∃ fs, d = .obj C fs := by
  unfold isC at h
  split at h
  · next C1 fs =>
    have e := of_decide_eq_true h
    subst e
    exact ⟨fs, rfl⟩
  · cases h
def fEqU (C : Str) (f : FFn) (o a : FM D) : FM D := fun s => (o s).bind fun d => (a s).bind fun y => if (isC C d && othD C y) = true then f [d, y] else .bad
theorem le_eqU {C : Str} {f : FFn} {o a : FM D} : ∀ xq s n Q, up (fEqU C f o a) xq s n Q → eEqU C (FSp.of f) (up o) (up a) xq s n Q := fun xq s n Q h => by
  unfold eEqU up
  refine wp_mono (fun d h => wp_mono (fun y h => ?_) (wp_bind h)) (wp_bind h)
  obtain ⟨e, h⟩ := wp_dec h
  obtain ⟨e1, e2⟩ := Bool.and_eq_true_iff.mp e
  exact ⟨isC_obj e1, e2, h⟩
def fEqR (C : Str) (f : FFn) (a o : FM D) : FM D := fun s => (a s).bind fun y => (o s).bind fun d => if (isC C d && othD C y) = true then (if nobj y = true then f [d, y] else f [y, d]) else .bad
theorem le_eqR {C : Str} {f : FFn} {o a : FM D} : ∀ xq s n Q, up (fEqR C f a o) xq s n Q → eEqR C (FSp.of f) (up a) (up o) xq s n Q := fun xq s n Q h => by
  unfold eEqR up
  refine wp_mono (fun y h => wp_mono (fun d h => ?_) (wp_bind h)) (wp_bind h)
  obtain ⟨e, h⟩ := wp_dec h
  obtain ⟨e1, e2⟩ := Bool.and_eq_true_iff.mp e
  refine ⟨isC_obj e1, e2, fun z => ?_, fun z => ?_⟩
  · rw [if_neg (by rw [z]; decide)] at h
    exact h
  · rw [if_pos z] at h
    exact h
def fNeU (C : Str) (f : FFn) (o a : FM D) : FM D := fun s => (o s).bind fun d => (a s).bind fun y => if (isC C d && othD C y) = true then (f [d, y]).bind fun r => match r with
    | .bl c => .ok (.bl (!c))
    | _ => .bad
  else .bad
theorem le_neU {C : Str} {f : FFn} {o a : FM D} : ∀ xq s n Q, up (fNeU C f o a) xq s n Q → eNeU C (FSp.of f) (up o) (up a) xq s n Q := fun xq s n Q h => by
  unfold eNeU up
  refine wp_mono (fun d h => wp_mono (fun y h => ?_) (wp_bind h)) (wp_bind h)
  obtain ⟨e, h⟩ := wp_dec h
  obtain ⟨e1, e2⟩ := Bool.and_eq_true_iff.mp e
  refine ⟨isC_obj e1, e2, ?_⟩
  have h2 : (f [d, y]).wp xq n (fun r n' => ∃ c, r = D.bl c ∧ Q (D.bl (!c)) n') := wp_mono (fun r h => by
    cases r with
    | bl c => exact ⟨c, rfl, h⟩
    | _ => exact h.elim) (wp_bind h)
  exact h2
theorem eqUE {C : Str} {f : FFn} {o a : FM D} {s : Ev} {d y : D} {r : Res D} (h1 : o s = .ok d) (h2 : a s = .ok y) (hc : (isC C d && othD C y) = true) (h3 : f [d, y] = r) : fEqU C f o a s = r := by
  unfold fEqU
  rw [h1]
  show (a s).bind _ = _
  rw [h2]
  show (if _ then _ else _) = _
  rw [if_pos hc, h3]
theorem eqRE {C : Str} {f : FFn} {o a : FM D} {s : Ev} {d y : D} {r : Res D} (h1 : a s = .ok y) (h2 : o s = .ok d) (hc : (isC C d && othD C y) = true) (h3 : (if nobj y = true then f [d, y] else f [y, d]) = r) : fEqR C f a o s = r := by
  unfold fEqR
  rw [h1]
  show (o s).bind _ = _
  rw [h2]
  show (if (isC C d && othD C y) = true then _ else _) = _
  rw [if_pos hc, h3]
theorem neUE {C : Str} {f : FFn} {o a : FM D} {s : Ev} {d y : D} {c : Bool} (h1 : o s = .ok d) (h2 : a s = .ok y) (hc : (isC C d && othD C y) = true) (h3 : f [d, y] = .ok (.bl c)) : fNeU C f o a s = .ok (.bl (!c)) := by
  unfold fNeU
  rw [h1]
  show (a s).bind _ = _
  rw [h2]
  show (if _ then _ else _) = _
  rw [if_pos hc, h3]
  rfl
end DL
namespace DL
open PySem PySem.Spec PyProof.Rows L2 MD
variable [TabC]
/-! comparisons by own methods, and with d.values(), as tests -/
section
variable {X : Cx} {E : XK} {O : List Nat} {a b e : Expr} {mo me ma : EM D} {pos : Pos} {C : Str} {ps : List Str} {k k' : Nat} {sp : FSp}
theorem mn_val {m : EM D} (h : Mn m) : Mn (tVal m) := fun xq s n Q Q' hq w => h _ _ _ _ _ (fun d n' ⟨c, e, q⟩ => ⟨c, e, hq _ _ q⟩) w
theorem vt_ownNe (tk : TK X E) (hl : ps.length = 2) (G : GOp X.prog X.w X.K X.mg X.base C "__eq__" k ps (lift X.K 2 sp)) (N : NeOk X.K (He.ga X.K C)) (hr : Room k' X.A) (hk : k + 1 ≤ k') (ho : VE X E O a mo) (he : VE X E O b me) (hm : behindInMarks .NotEq b = false) : VT X E O (.Compare a [.NotEq] [b] pos) (tVal (eOwNe C sp mo me)) := by
  obtain ⟨f, fd, h1, h2, h3, h4⟩ := G
  obtain ⟨mn1, t1, p1, f1⟩ := ho
  obtain ⟨mn2, t2, p2, f2⟩ := he
  refine ⟨mn_val fun xq s n Q Q' hq w => mn1 _ _ _ _ _ (fun d n1 w => mn2 _ _ _ _ _ (fun y n2 w => ⟨w.1, w.2.1, sp.mn _ _ _ _ _ (fun r n' ⟨c, e, q⟩ => ⟨c, e, hq _ _ q⟩) w.2.2⟩) w) w, _, pt_cmpR (op_ownNe h1 N h4 (DL.Room.le hr hk) h3 (passes_call tk fun _ _ _ _ h => h)) p1 p2 hm, fun aS A0 H0 σ H s n xq Q S L hm => ?_⟩
  refine f1 aS A0 H0 σ H s n xq _ S L (mn1 _ _ _ _ _ (fun d n1 q v1 H1 k1 st1 r1 => ?_) hm)
  refine f2 aS A0 H0 σ H1 s n1 xq _ (S.step k1 st1) L (mn2 _ _ _ _ _ (fun y n2 q2 v2 H2 k2 st2 r2 => ?_) q)
  obtain ⟨⟨fs, ed⟩, ⟨gs, ey⟩, q2⟩ := q2
  subst ed
  subst ey
  have r3 := r1.kp k2 st1 AV.st
  have r4 := r3
  have r5 := r2
  rw [Rep] at r4 r5
  obtain ⟨a1, dx, ys, ev, na, hq, rf⟩ := r4
  obtain ⟨b1, dy, zs, eu, nb, hq', rf'⟩ := r5
  have kk := k1.trans k2
  refine ⟨⟨a1, dx, ys, ev, hq⟩, ⟨b1, dy, zs, eu, hq'⟩, (S.step kk st2).call L rfl (RepL.cons r3 (RepL.cons r2 RepL.nil)) (sp.mn _ _ _ _ _ (fun d n' w v H' kp st r => ?_) q2)⟩
  obtain ⟨c, rfl, c', hc, w⟩ := w
  cases hc
  exact ⟨c, by simpa only [Rep] using r, !c, rfl, w H' (kk.trans kp) st⟩
/-! x in d.values() -/
variable {apos cpos : Pos}
theorem vt_valIn {neg : Bool} (hc : X.calm = true) (hu : X.A.units + 65 < cLine) (ha : VB X E O a ma) (he : VB X E O e me) (hm : behindInMarks (if neg = true then .NotIn else .In) (.Call (.Attribute e "values" apos) [] [] cpos) = false) (hbase : attributeBase e "values" X.env (eval e X.env) = eval e X.env) (hline : (apos.endLine == cpos.line) = true) :
    VT X E O (.Compare a [if neg = true then .NotIn else .In] [.Call (.Attribute e "values" apos) [] [] cpos] pos) (tVal (eBin (dValInD neg) ma me)) := by
  obtain ⟨mna, ta, pa, fa⟩ := ha
  obtain ⟨mne, te, pe, fe⟩ := he
  refine ⟨mn_val (mn_bin mna mne), _, pt_cmpR (op_view (neg := neg) hc (by omega)) pa (pe_vals pe hbase hline) hm, fun aS A0 H0 σ H s n xq Q S L hm => ?_⟩
  refine fa aS A0 H0 σ H s n xq _ S L (mna _ _ _ _ _ (fun d1 n1 q v1 H1 k1 st1 r1 => ?_) hm)
  refine fe aS A0 H0 σ H1 s n1 xq _ (S.step k1 st1) L (mne _ _ _ _ _ (fun d2 n2 q2 v2 H2 k2 st2 r2 => ?_) q)
  obtain ⟨b, eb, c, ec, q3⟩ := q2
  subst ec
  cases d2 with
  | dic kvs =>
    have eb : (nkD d1).bind (fun k => (ksD kvs).map fun ks => D.bl (if neg = true then !decide (k ∈ ks) else decide (k ∈ ks))) = some (.bl c) := eb
    cases e1 : nkD d1 with
    | none => rw [e1] at eb; cases eb
    | some k =>
      rw [e1] at eb
      cases e2 : ksD kvs with
      | none => rw [e2] at eb; cases eb
      | some ks =>
        rw [e2] at eb
        cases eb
        obtain ⟨a2, ys, ev, na, rd, rk⟩ := repB_dic r2
        refine ⟨a2, ys, ev, rfl, rd, fun v hv => ?_⟩
        have k3 : KpS aS H2 (upd H2 v (viewO v a2)) := KpS.upd hv
        have st3 : StA X.K aS (upd H2 v (viewO v a2)) n2 := st2.upd hv fun ps z => by
          have z : HO.ext _ = HO.tbl ps := z
          cases z
        obtain ⟨kk, dk⟩ := nk_rep ((r1.kp k2 st1 AV.st).kp k3 st2 AV.st) e1
        exact ⟨v, a2, ys, ks, k, rfl, upd_same, Rd.kp k3 na rd, ks_rep AV.st (rk.kp k3 st2 AV.st) e2, kk, dk, _, rfl, q3 _ ((k1.trans k2).trans k3) st3⟩
  | _ => cases eb
theorem vt_inV (hc : X.calm = true) (hu : X.A.units + 65 < cLine) (ha : VB X E O a ma) (he : VB X E O e me) (hm : behindInMarks .In (.Call (.Attribute e "values" apos) [] [] cpos) = false := by rfl) (hbase : attributeBase e "values" X.env (eval e X.env) = eval e X.env := by rfl) (hline : (apos.endLine == cpos.line) = true := by rfl) :
    VT X E O (.Compare a [.In] [.Call (.Attribute e "values" apos) [] [] cpos] pos) (tVal (eBin (dValInD false) ma me)) := vt_valIn (neg := false) hc hu ha he hm hbase hline
end
/-! flat -/
section
variable {a : FM D} {m : EM D}
theorem le_valT (h : ∀ xq s n Q, up a xq s n Q → m xq s n Q) : ∀ xq s n Q, up (fVal a) xq s n Q → tVal m xq s n Q := fun xq s n Q w => h _ _ _ _ (le_val xq s n Q w)
end
end DL
namespace DL
open PySem PySem.Spec PyProof.Rows L2
variable [TabC]
/-! .. as tests -/
section
variable {X : Cx} {E : XK} {O : List Nat} {a b : Expr} {mo me : EM D} {pos : Pos} {C : Str} {ps : List Str} {k k' : Nat} {sp : FSp}
theorem vt_eqU (tk : TK X E) (U : EqU X.K (He.ga X.K C)) (hl : ps.length = 2) (G : GOp X.prog X.w X.K X.mg X.base C "__eq__" k ps (lift X.K 2 sp)) (hr : Room k' X.A) (hk : k ≤ k') (ho : VE X E O a mo) (he : VE X E O b me) (hm : behindInMarks .Eq b = false) : VT X E O (.Compare a [.Eq] [b] pos) (tVal (eEqU C sp mo me)) := by
  obtain ⟨f, fd, h1, h2, h3, h4⟩ := G
  obtain ⟨mn1, t1, p1, f1⟩ := ho
  obtain ⟨mn2, t2, p2, f2⟩ := he
  refine ⟨mn_val fun xq s n Q Q' hq w => mn1 _ _ _ _ _ (fun d n1 w => mn2 _ _ _ _ _ (fun y n2 w => ⟨w.1, w.2.1, sp.mn _ _ _ _ _ hq w.2.2⟩) w) w, _, pt_cmpR (op_eqU U h1 h4 (DL.Room.le hr hk) h3 (passes_call tk fun _ _ _ _ h => h)) p1 p2 hm, fun aS A0 H0 σ H s n xq Q S L hm => ?_⟩
  refine f1 aS A0 H0 σ H s n xq _ S L (mn1 _ _ _ _ _ (fun d n1 q v H1 k1 st1 r1 => ?_) hm)
  refine f2 aS A0 H0 σ H1 s n1 xq _ (S.step k1 st1) L (mn2 _ _ _ _ _ (fun y n2 q2 u H2 k2 st2 r2 => ?_) q)
  obtain ⟨⟨fs, ed⟩, oy, q2⟩ := q2
  subst ed
  have r3 := r1.kp k2 st1 AV.st
  have r4 := r3
  rw [Rep] at r4
  obtain ⟨a, dx, ys, ev, na, hq, rf⟩ := r4
  have kk := k1.trans k2
  exact ⟨⟨a, dx, ys, ev, hq⟩, oth_rep oy r2, (S.step kk st2).call L rfl (RepL.cons r3 (RepL.cons r2 RepL.nil)) (sp.mn _ _ _ _ _ (fun d n' ⟨c, ed, w⟩ v H' kp st r => ⟨c, by subst ed; simpa only [Rep] using r, w H' (kk.trans kp) st⟩) q2)⟩
theorem vt_eqR (tk : TK X E) (U : EqU X.K (He.ga X.K C)) (hl : ps.length = 2) (G : GOp X.prog X.w X.K X.mg X.base C "__eq__" k ps (lift X.K 2 sp)) (hr : Room k' X.A) (hk : k ≤ k') (he : VE X E O a me) (ho : VE X E O b mo) (hm : behindInMarks .Eq b = false) : VT X E O (.Compare a [.Eq] [b] pos) (tVal (eEqR C sp me mo)) := by
  obtain ⟨f, fd, h1, h2, h3, h4⟩ := G
  obtain ⟨mn1, t1, p1, f1⟩ := he
  obtain ⟨mn2, t2, p2, f2⟩ := ho
  have hx := passes_call (X := X) (E := E) tk fun _ _ _ _ h => h
  refine ⟨mn_val fun xq s n Q Q' hq w => mn1 _ _ _ _ _ (fun d n1 w => mn2 _ _ _ _ _ (fun y n2 w => ⟨w.1, w.2.1, fun z => sp.mn _ _ _ _ _ hq (w.2.2.1 z), fun z => sp.mn _ _ _ _ _ hq (w.2.2.2 z)⟩) w) w, _, pt_cmpR (OpR.or (op_eqU U h1 h4 (DL.Room.le hr hk) h3 hx) (op_eqR U h1 h4 (DL.Room.le hr hk) h3 hx)) p1 p2 hm, fun aS A0 H0 σ H s n xq Q S L hm => ?_⟩
  refine f1 aS A0 H0 σ H s n xq _ S L (mn1 _ _ _ _ _ (fun y n1 q v H1 k1 st1 r1 => ?_) hm)
  refine f2 aS A0 H0 σ H1 s n1 xq _ (S.step k1 st1) L (mn2 _ _ _ _ _ (fun d n2 q2 u H2 k2 st2 r2 => ?_) q)
  obtain ⟨⟨fs, ed⟩, oy, w1, w2⟩ := q2
  subst ed
  have r3 := r1.kp k2 st1 AV.st
  have r4 := r2
  rw [Rep] at r4
  obtain ⟨a, dx, ys, ev, na, hq, rf⟩ := r4
  have kk := k1.trans k2
  cases hn : nobj y with
  | true => exact .inr ⟨⟨a, dx, ys, ev, hq⟩, oth_repR hn r3, (S.step kk st2).call L rfl (RepL.cons r2 (RepL.cons r3 RepL.nil)) (sp.mn _ _ _ _ _ (fun d n' ⟨c, ed, w⟩ v H' kp st r => ⟨c, by subst ed; simpa only [Rep] using r, w H' (kk.trans kp) st⟩) (w2 hn))⟩
  | false =>
    cases y with
    | obj C1 gs =>
      have e := of_decide_eq_true oy
      subst e
      have r5 := r3
      rw [Rep] at r5
      obtain ⟨b, dy, zs, eu, nb, hq', rf'⟩ := r5
      exact .inl ⟨⟨b, dy, zs, eu, hq'⟩, .inr (.inr ⟨a, dx, ys, ev, hq⟩), (S.step kk st2).call L rfl (RepL.cons r3 (RepL.cons r2 RepL.nil)) (sp.mn _ _ _ _ _ (fun d n' ⟨c, ed, w⟩ v H' kp st r => ⟨c, by subst ed; simpa only [Rep] using r, w H' (kk.trans kp) st⟩) (w1 hn))⟩
    | non => cases hn
    | dic _ => cases hn
    | _ => cases oy
theorem vt_neU (tk : TK X E) (U : EqU X.K (He.ga X.K C)) (hl : ps.length = 2) (G : GOp X.prog X.w X.K X.mg X.base C "__eq__" k ps (lift X.K 2 sp)) (N : NeOk X.K (He.ga X.K C)) (hr : Room k' X.A) (hk : k + 1 ≤ k') (ho : VE X E O a mo) (he : VE X E O b me) (hm : behindInMarks .NotEq b = false) : VT X E O (.Compare a [.NotEq] [b] pos) (tVal (eNeU C sp mo me)) := by
  obtain ⟨f, fd, h1, h2, h3, h4⟩ := G
  obtain ⟨mn1, t1, p1, f1⟩ := ho
  obtain ⟨mn2, t2, p2, f2⟩ := he
  refine ⟨mn_val fun xq s n Q Q' hq w => mn1 _ _ _ _ _ (fun d n1 w => mn2 _ _ _ _ _ (fun y n2 w => ⟨w.1, w.2.1, sp.mn _ _ _ _ _ (fun r n' ⟨c, e, q⟩ => ⟨c, e, hq _ _ q⟩) w.2.2⟩) w) w, _, pt_cmpR (op_neU U h1 N h4 (DL.Room.le hr hk) h3 (passes_call tk fun _ _ _ _ h => h)) p1 p2 hm, fun aS A0 H0 σ H s n xq Q S L hm => ?_⟩
  refine f1 aS A0 H0 σ H s n xq _ S L (mn1 _ _ _ _ _ (fun d n1 q v H1 k1 st1 r1 => ?_) hm)
  refine f2 aS A0 H0 σ H1 s n1 xq _ (S.step k1 st1) L (mn2 _ _ _ _ _ (fun y n2 q2 u H2 k2 st2 r2 => ?_) q)
  obtain ⟨⟨fs, ed⟩, oy, q2⟩ := q2
  subst ed
  have r3 := r1.kp k2 st1 AV.st
  have r4 := r3
  rw [Rep] at r4
  obtain ⟨a, dx, ys, ev, na, hq, rf⟩ := r4
  have kk := k1.trans k2
  refine ⟨⟨a, dx, ys, ev, hq⟩, oth_rep oy r2, (S.step kk st2).call L rfl (RepL.cons r3 (RepL.cons r2 RepL.nil)) (sp.mn _ _ _ _ _ (fun d n' w v H' kp st r => ?_) q2)⟩
  obtain ⟨c, rfl, c', hc, w⟩ := w
  cases hc
  exact ⟨c, by simpa only [Rep] using r, !c, rfl, w H' (kk.trans kp) st⟩
end
end DL
namespace DL
open PySem PySem.Spec PyProof.Rows L2
variable [TabC]
/-! isinstance(x, C), x None, a plain dict or an object of C -/
structure IsU (K : PySem.W.Frag) (C : Addr) : Prop where
  ins : C8.InsC K C
  n : PySem.W.kitOne K (.type "NoneType") (.ref C) = some false
  d : PySem.W.kitOne K (.type "dict") (.ref C) = some false
def eIsU (C : Str) (m : EM D) : EM D := fun xq s n Q => m xq s n fun d n' => othD C d = true ∧ Q (.bl (isC C d)) n'
section
variable {X : Cx} {E : XK} {O : List Nat} {e : Expr} {m : EM D} {pos : Pos}
theorem ve_isU {C : Str} {p p2 : Pos} (hg : Gl X "isinstance") (hm : X.mg "isinstance" = none) (hgC : Gl X C) (hmC : X.mg C = some (.ref (He.ga X.K C))) (U : IsU X.K (He.ga X.K C)) (h : VE X E O e m) (hv : bootBuiltins "isinstance" = some (.builtin "isinstance") := by rfl) (hdC : (C == ("__debug__" : Str)) = false := by decide)
    (hs : starEach [e, .Name C p2] X.env = (false, eval e X.env) :: starEach [.Name C p2] X.env := by rfl) (hpl : (backTo pos (starEach [.Name C p2] X.env)).any (·.1) = false := by rfl) : VE X E O (.Call (.Name "isinstance" p) [e, .Name C p2] [] pos) (eIsU C m) := by
  obtain ⟨mn, t, pe, f⟩ := h
  refine ⟨fun xq s n Q Q' hq h => mn _ _ _ _ _ (fun d n' ⟨h1, h2⟩ => ⟨h1, hq _ _ h2⟩) h, _, pe_callB call_isi hg hm hv (pa_cons pe (pa_cons (pe_glob hgC hmC (v := .ref (He.ga X.K C)) rfl hdC) pa_nil) hs) (by decide) rfl hs hpl, fun aS A0 H0 σ H s n xq Q S L hm => ?_⟩
  refine f aS A0 H0 σ H s n xq _ S L (mn _ _ _ _ _ (fun d n' q v H' k st r => ?_) hm)
  obtain ⟨ho, q⟩ := q
  have c := U.ins
  cases d with
  | non =>
    rw [Rep] at r
    subst r
    exact ⟨_, _, _, _, _, rfl, .own _, .base .non, U.n, q _ _ k st rep_bl⟩
  | dic kvs =>
    rw [Rep] at r
    obtain ⟨a, ys, ev, na, hr, rk⟩ := r
    subst ev
    rcases hr with hr | ⟨o, hr⟩
    · exact ⟨_, _, _, _, _, rfl, .own _, .base (.dK hr), U.d, q _ _ k st rep_bl⟩
    · exact ⟨_, _, _, _, _, rfl, .own _, .fDict hr, U.d, q _ _ k st rep_bl⟩
  | obj C' fs =>
    have e := of_decide_eq_true ho
    subst e
    rw [Rep] at r
    obtain ⟨a, dx, ys, ev, na, hq, rf⟩ := r
    subst ev
    refine ⟨_, _, _, _, _, rfl, .own _, .base (TyOf.ins hq c.cl c.ha c.hn c.htk c.hm), c.me, ?_⟩
    have e2 : isC C' (.obj C' fs) = true := decide_eq_true rfl
    rw [e2] at q
    exact q _ _ k st rep_bl
  | _ => cases ho
end
def fIsU (C : Str) (a : FM D) : FM D := fun s => (a s).bind fun d => if othD C d = true then .ok (.bl (isC C d)) else .bad
theorem le_isU {C : Str} {a : FM D} : ∀ xq s n Q, up (fIsU C a) xq s n Q → eIsU C (up a) xq s n Q := fun xq s n Q h => by
  unfold eIsU up
  refine wp_mono (fun d h => ?_) (wp_bind h)
  obtain ⟨e, h⟩ := wp_dec h
  exact ⟨e, h⟩
theorem isUE {C : Str} {a : FM D} {s : Ev} {d : D} (h : a s = .ok d) (ho : othD C d = true) : fIsU C a s = .ok (.bl (isC C d)) := by
  unfold fIsU
  rw [h]
  show (if othD C d = true then _ else _) = _
  rw [if_pos ho]
theorem isUB_ok {K : PySem.W.Frag} {C : Addr} (c : Cls K C) (h : isUB K C = true) : IsU K C := by
  unfold isUB at h
  simp only [Bool.and_eq_true, decide_eq_true_eq] at h
  exact ⟨insB_ok c h.1, h.2.1, h.2.2⟩
theorem eqUB_ok {K : PySem.W.Frag} {C : Addr} (h : eqUB K C = true) : EqU K C := by
  unfold eqUB at h
  simp only [Bool.and_eq_true, decide_eq_true_eq] at h
  exact ⟨h.1, h.2.1, h.2.2.1, h.2.2.2⟩
end DL
/-! a run that wakes no sleeping generator leaves them as they are, whatever they hold -/
namespace DL.GF
open PySem PySem.Spec PyProof.Rows GenW
open Sem (wp)
/-- what a sleeper's place holds in its stead, and the sleeper -/
abbrev Hold := Nat → Option (GenState × GenState)
section
variable {P : Hold} {G : Array GenState} {g : Nat} {x : GenState}
end
end DL.GF
namespace DL.GF
open PySem PySem.Spec PyProof.Rows GenW
open Sem (wp)
end DL.GF
/-! stretches of a generator's run: what is wanted of their end may hang on what is to go on behind it -/
namespace DL.GF
open PySem PySem.Spec PyProof.Rows GenW
open Sem (wp)
abbrev EndP := End → Shared → Prop
section
variable {M : Model} {B : Around} {c c' : Code} {fs : List Frame} {s : Shared} {Φ Ψ : EndP} {env : Env} {K : Flow → Sem PySem.Fin} {J : Value → Sem PySem.Fin} {gd : Bool → Bool} {lv : List Value → List Value}
/-! ### statements -/
end
section
variable {P : Program} {w : World} {B : Around} {fs : List Frame} {s : Shared} {Φ : EndP} {env : Env}
end
end DL.GF
/-! a generator is woken -/
namespace DL.GF
open PySem PySem.Spec PyProof.Rows GenW L2
open Sem (wp)
end DL.GF
/-! a generator's frame while it sleeps: its own objects are tracked as they stand -/
namespace DL.GF
open PySem PySem.Spec PyProof.Rows GenW L2
/-! ### the heap up to a place -/
section
variable {L b : Addr} {h h' : Heap} {o : Obj}
end
/-! ### the frame -/
structure GG where
  P : Program
  w : World
  K : PySem.W.Frag
  mg : Str → Option Value
  base : Heap
  N : List Str
  env : Env
  outer : List Env
  k : Nat
section
variable {G : GG} {B B' : Around} {s z : Shared} {H H0 H' Hg : Hp} {ip : List (Addr × Obj)} {σ : L2.St}
end
end DL.GF
/-! generators over data -/
namespace DL.GF
open PySem PySem.Spec PyProof.Rows GenW L2
variable [TabC]
/-- when it wakes: the around, the state, what is tracked, what it must not meet, its own tracked things, the draws; where its own stretch begins -/
structure WD where
  B : Around
  s : Shared
  H : Hp
  A : AS
  Pr : AS
  n : Nat
/-- the generator: its frame, the state of the draws, its object and number -/
structure GT extends GG where
  aS : Addr
  a : Addr
  g : Nat
  go : Obj
section
variable {g : Nat} {aS : Addr} {q q1 q2 : WD} {O O1 O2 : List Nat} {σ σ1 σ2 : L2.St} {H H1 H2 : Hp} {z z1 z2 : Shared}
end
section
variable {G : GT} {q : WD} {H0 : Hp} {ip : List (Addr × Obj)} {Px : AS} {O O' OL : List Nat} {σ σ' : L2.St} {H H' : Hp} {z z' : Shared} {sv sv' : Ev}
end
/-! ### statements of a generator -/
structure GDE where
  nx : List D → Ev → Prop
  bk : List D → Ev → Prop := fun _ _ => False
  ct : List D → Ev → Prop := fun _ _ => False
abbrev GM := GDE → List D → Ev → Prop
section
variable {G : GT} {O O1 O' OL : List Nat} {st : Stmt} {rest a b : List Stmt} {m r : GM} {ms : SM}
end
end DL.GF
namespace DL.GF
open PySem PySem.Spec PyProof.Rows GenW L2
variable [TabC]
section
variable {G : GT} {q : WD} {H0 : Hp} {ip : List (Addr × Obj)} {Px : AS} {O O' OL : List Nat} {σ σ' : L2.St} {H H' : Hp} {z z' : Shared} {sv sv' : Ev} {e : Expr} {m : EM D} {mt : EM Bool}
end
section
variable {G : GT} {O O1 O' OL : List Nat} {st : Stmt} {rest a b : List Stmt} {m r ma mb : GM} {ms : SM} {c : Expr} {mt : EM Bool} {pos : Pos}
end
end DL.GF
namespace DL.GF
open PySem PySem.Spec PyProof.Rows GenW L2
variable [TabC]
section
variable {K : PySem.W.Frag} {aS : Addr} {H H' : Hp} {A A' : AS} {O : List Nat} {σ : L2.St} {sv : Ev} {n n' : Nat} {B B' Px : AS}
end
section
variable {G : GT} {q q' : WD} {H0 : Hp} {ip : List (Addr × Obj)} {Px : AS} {O O' OL : List Nat} {σ σ' : L2.St} {H H' : Hp} {z z' : Shared} {sv sv' : Ev}
end
section
variable {G : GT} {O O' OL : List Nat} {e : Expr} {m : EM D} {yp pos : Pos}
end
end DL.GF
/-! those who ask a generator for the next thing -/
namespace DL.GF
open PySem PySem.Spec PyProof.Rows GenW L2
variable [TabC]
section
variable {K : PySem.W.Frag} {aS : Addr} {H H' : Hp} {O : List Nat} {σ : L2.St} {sv : Ev} {n n' g : Nat} {A0 A1 Pr Pr' : AS} {z0 : Option Addr} {s z : Shared} {d : D} {x : V}
end
end DL.GF
namespace DL
open PySem PySem.Spec PyProof.Rows L2
variable [TabC]
/-! ### a thing that is kept aside, told by a handle: its addresses (S), what stands there (C) -/
structure Hid where
  S : Type
  C : Type
  own : S → Addr → Prop
  hd : S → V
  at_ : PySem.W.Frag → Addr → Hp → AS → S → C → Prop
  vw : C → D
  no : D → Bool
  dom : ∀ {K aS H A st c b}, at_ K aS H A st c → own st b → ∃ u, H b = some u ∧ (∀ ps, u ≠ .tbl ps) ∧ ∀ xs, u ≠ .tup xs
  mono : ∀ {K aS H H' A A' st c}, Sub K H H' A A' → (∀ b u, own st b → H b = some u → H' b = some u) → at_ K aS H A st c → at_ K aS H' A' st c
  rep : ∀ {K aS H A A' st c}, at_ K aS H A st c → (∀ b, A' b → A b ∧ ¬ own st b) → Rep K aS H A' (vw c) (hd st)
  far : ∀ {K aS H A A' st c d v}, at_ K aS H A st c → (∀ b, A b → A' b ∨ own st b) → no d = true → Rep K aS H A' d v → Rep K aS H A d v
structure DEV (Z : Hid) where
  nx : Z.C → Ev → Nat → Prop
  rt : D → Z.C → Nat → Prop
  bk : Z.C → Ev → Nat → Prop := fun _ _ _ => False
  ct : Z.C → Ev → Nat → Prop := fun _ _ _ => False
abbrev EMV (Z : Hid) (α : Type) := Z.S → (Z.C → XQ) → Z.C → Ev → Nat → (α → Z.C → Nat → Prop) → Prop
abbrev SMV (Z : Hid) := Z.S → (Z.C → XQ) → DEV Z → Z.C → Ev → Nat → Prop
section
variable {Z : Hid} {K : PySem.W.Frag} {E : XK} {aS : Addr} {H H' H0 : Hp} {A : AS} {A0 : A0T} {O O' : List Nat} {σ : L2.St} {s : Ev} {n n' : Nat} {st : Z.S} {c c' : Z.C} {xq : Z.C → XQ}
end
/-! ### what knows nothing of the thing -/
section
variable {Z : Hid} {X : Cx} {E : XK} {O O' O'' OL : List Nat} {e : Expr} {es : List Expr} {st : Stmt} {rest : List Stmt} {m : EM D} {ml : EM (List D)} {mt : EM Bool} {ms : SM}
end
end DL
namespace DL
open PySem PySem.Spec PyProof.Rows L2
variable [TabC]
/-! ### defs that hand back a pair whose second thing is new -/
section
variable {X : Cx} {E : XK} {O O' OL : List Nat} {e e1 e2 : Expr} {st : Stmt} {rest : List Stmt} {m m1 m2 : EM D} {ms mr : SM} {pos : Pos} {i j : Nat}
variable {es : List Expr} {ml : EM (List D)} {p : Pos} {x y : Str} {f : Addr} {fd : FuncData} {ps : List Str} {k k' : Nat} {sp : FSp} {dds : List D} {dvs : List V} {us : List Value}
end
section
variable {P : Program} {w : World} {K : PySem.W.Frag} {mg : Str → Option Value} {base : Heap} {x qual : Str} {params : Arguments} {body : List Stmt} {scope : Scope} {dvs : List V} {kws : List (Str × V)} {f : Addr} {fd : FuncData}
end
end DL
namespace DL
open PySem PySem.Spec PyProof.Rows L2
variable [TabC]
section
variable {P : Program} {w : World} {K : PySem.W.Frag} {mg : Str → Option Value} {base : Heap} {x : Str} {params : Arguments} {body : List Stmt} {scope : Scope} {f : Addr} {fd : FuncData}
end
section
variable {X : Cx} {E : XK} {O : List Nat} {e o : Expr} {es : List Expr} {ml : EM (List D)} {mo : EM D} {pos p apos : Pos} {x C m : Str} {ps : List Str} {k k' : Nat} {sp : FSp} {dds : List D}
/-- a method that hands back a new object -/
theorem vf_meth {mn : Str} {pe : Expr → TE → Prop} {dvs : List V} (ho : VE X E O o mo) (ha : VA Rep X E O es ml)
    (hp : ∀ {to : TE} {t : TA}, PE X o to → PA X es t → PE X e (tMeth (He.ga X.K C) mn (liftF X.K ps.length sp) dvs E to t)) (hdd : ∀ aS H A, RepL X.K aS H A dds dvs) : VF X E O e (eMeth C mn ps.length sp dds mo ml) := by
  obtain ⟨mn1, t1, p1, f1⟩ := ho
  obtain ⟨mn2, t2, p2, f2⟩ := ha
  refine ⟨mn_meth mn1 mn2, _, hp p1 p2, fun aS A0 H0 σ H s n xq Q S L hm => ?_⟩
  refine f1 aS A0 H0 σ H s n xq _ S L (mn1 _ _ _ _ _ (fun d n1 q v H1 k1 st1 r1 => ?_) hm)
  obtain ⟨fs, ed, hl, q⟩ := q
  subst ed
  have r1' := r1
  rw [Rep] at r1'
  obtain ⟨a, dx, ys, ev, na, hq, rf⟩ := r1'
  have hy : ys.lookup mn = none := by
    rcases repF_look mn rf with z | ⟨_, _, z, _⟩
    · exact z.2
    · rw [hl] at z; cases z
  subst ev
  have S1 := S.step k1 st1
  refine ⟨a, dx, ys, rfl, hq, hy, f2 aS A0 H0 σ H1 s n1 xq _ S1 L (mn2 _ _ _ _ _ (fun ds n2 q2 vs H2 k2 st2 r2 => ?_) q)⟩
  have kk := k1.trans k2
  have S2 := S.step kk st2
  refine S2.callF L q2.1 (RepL.cons (r1.kp k2 st1 AV.st) ((RL.repL r2).app (hdd aS H2 _))) (sp.mn _ _ _ _ _ (fun d n' w a' H' ha kp st r => w a' H' ?_ (kk.trans kp) st r) q2.2)
  refine Option.eq_none_iff_forall_ne_some.mpr fun u z => ?_
  exact (KpS.gone kk ha z (fun y => S2.new ha (.inr (.inl y)))).elim
theorem vf_me (tk : TK X E) {len : Nat} {pl : Sem Bool} (hl : ps.length = len) (G : GMe X.prog X.w X.K X.mg X.base C m k ps dds (liftF X.K len sp)) (hr : Room k' X.A) (hk : k ≤ k') (ho : VE X E O o mo) (ha : VA Rep X E O (e :: es) ml)
    (he : starEach (e :: es) X.env = (false, eval e X.env) :: starEach es X.env := by rfl) (hpl : (backTo pos (starEach es X.env)).any (·.1) = false := by rfl)
    (hev : eval ((o.Attribute m apos).Call (e :: es) [] pos) X.env = (do let ov ← eval o X.env; standAt apos.atName; let __x ← holding [ov] (getMethod ov m pl); match __x with | (f, first) => callWith pos f first (backTo pos (starEach (e :: es) X.env)) (backToKw pos (keywordEach [] X.env))) := by rfl) :
    VF X E O (.Call (.Attribute o m apos) (e :: es) [] pos) (eMeth C m len sp dds mo ml) := by
  subst hl
  obtain ⟨f, fd, us, dvs, h1, h2, h3, h4, h5, h6⟩ := G
  exact vf_meth (pe := fun _ _ => True) ho ha (fun p1 p2 => pe_meth p1 h1 h2 h6 (DL.Room.le hr hk) h3 h4 (passes_call tk fun _ _ _ _ h => h) p2 he hpl hev) h5
theorem vf_me0 (tk : TK X E) {len : Nat} {pl : Sem Bool} (hl : ps.length = len) (G : GMe X.prog X.w X.K X.mg X.base C m k ps dds (liftF X.K len sp)) (hr : Room k' X.A) (hk : k ≤ k') (ho : VE X E O o mo)
    (hev : eval ((o.Attribute m apos).Call [] [] pos) X.env = (do let ov ← eval o X.env; standAt apos.atName; let __x ← holding [ov] (getMethod ov m pl); match __x with | (f, first) => callWith pos f first (backTo pos (starEach [] X.env)) (backToKw pos (keywordEach [] X.env))) := by rfl) :
    VF X E O (.Call (.Attribute o m apos) [] [] pos) (eMeth C m len sp dds mo eNil) := by
  subst hl
  obtain ⟨f, fd, us, dvs, h1, h2, h3, h4, h5, h6⟩ := G
  obtain ⟨mn1, t1, p1, f1⟩ := ho
  refine ⟨mn_meth mn1 (fun _ _ _ _ _ hq h => hq _ _ h), _, pe_meth0 p1 h1 h2 h6 (DL.Room.le hr hk) h3 h4 (passes_call tk fun _ _ _ _ h => h) hev, fun aS A0 H0 σ H s n xq Q S L hm => ?_⟩
  refine f1 aS A0 H0 σ H s n xq _ S L (mn1 _ _ _ _ _ (fun d n1 q v H1 k1 st1 r1 => ?_) hm)
  obtain ⟨fs, ed, hlk, q⟩ := q
  subst ed
  have r1' := r1
  rw [Rep] at r1'
  obtain ⟨a, dx, ys, ev, na, hq, rf⟩ := r1'
  have hy : ys.lookup m = none := by
    rcases repF_look m rf with z | ⟨_, _, z, _⟩
    · exact z.2
    · rw [hlk] at z; cases z
  refine ⟨a, dx, ys, ev, hq, hy, ?_⟩
  subst ev
  have S1 := S.step k1 st1
  refine S1.callF L q.1 (RepL.cons r1 (h5 aS H1 _)) (sp.mn _ _ _ _ _ (fun d n' w a' H' ha kp st r => w a' H' ?_ (k1.trans kp) st r) q.2)
  refine Option.eq_none_iff_forall_ne_some.mpr fun u z => ?_
  exact (KpS.gone k1 ha z (fun y => S1.new ha (.inr (.inl y)))).elim
end
end DL
namespace DL
open PySem PySem.Spec PyProof.Rows L2
variable [TabC]
/-! ### a look at the thing: the handle's slot shows it -/
section
variable {Z : Hid} {K : PySem.W.Frag} {E : XK} {aS : Addr} {H H' H0 : Hp} {A A' : AS} {A0 : A0T} {O O' : List Nat} {σ : L2.St} {s : Ev} {n n' j : Nat} {st : Z.S} {c c' : Z.C} {xq : Z.C → XQ}
end
section
variable {Z : Hid} {X : Cx} {E : XK} {O O' O'' OL : List Nat} {e a b : Expr} {es : List Expr} {st : Stmt} {rest : List Stmt} {m : EM D} {ml : EM (List D)} {mt : EM Bool} {j : Nat} {pos : Pos}
/-! ### statements -/
variable {ms mr ma mb : SMV Z} {me : EMV Z D} {mc : EMV Z Bool} {mls : EMV Z (List D)} {i : Nat}
/-! ### a new thing that a slot owns -/
end
end DL
namespace DL
open PySem PySem.Spec PyProof.Rows L2
variable [TabC]
/-! ### expressions that may change the thing -/
section
variable {Z : Hid} {K : PySem.W.Frag} {aS : Addr} {H H' H1 H2 : Hp} {A : AS} {d : D} {ds : List D} {v : V} {vs : List V}
end
section
variable {Z : Hid} {X : Cx} {E : XK} {O O' O'' OL : List Nat} {e a b : Expr} {es rest : List Expr} {me mb : EMV Z D} {ml : EMV Z (List D)} {mt tA tB : EMV Z Bool} {pos p : Pos}
end
end DL
namespace L2
open PySem PySem.Spec PyProof.Rows
/-- d.clear() -/
def rClearK : V → List V → Hp → VK → Prop := fun x vs H Q => ∃ a ks, x = .ref a ∧ vs = [] ∧ H a = some (.dK ks) ∧ Q .non (upd H a (.dK []))
theorem mt_clearK : MtM X "dict.clear" rClearK := by
  intro pins s σ H x vs v us Q I rx rv h
  obtain ⟨a, ks, rfl, rfl, hH, q⟩ := h
  cases rx
  have hus := rv.zero
  subst hus
  exact d_clear I hH fun s' I' => ⟨.non, _, I', rfl, q⟩
end L2
namespace DL
open PySem PySem.Spec PyProof.Rows L2
variable [TabC]
/-! ### a triple whose third thing is a new dict of numbers -/
section
variable {X : Cx} {E : XK} {O O' O'' OL : List Nat} {st : Stmt} {rest body a b : List Stmt} {ms mr mb ma : SM} {f : FS} {pos : Pos}
end
end DL
namespace DL
open PySem PySem.Spec PyProof.Rows L2
variable [TabC]
/-! ### defs that may change the thing -/
structure FSpV (Z : Hid) where
  run : Z.S → Z.C → List D → Nat → (D → Z.C → Nat → Prop) → (Z.C → XQ) → Prop
  mn : ∀ st c ds n Q Q' xq, (∀ d c' n', Q d c' n' → Q' d c' n') → run st c ds n Q xq → run st c ds n Q' xq
section
variable {Z : Hid} {K : PySem.W.Frag} {E : XK} {aS : Addr} {H H' H0 : Hp} {A : AS} {A0 : A0T} {O O' : List Nat} {σ : L2.St} {s : Ev} {n n' len : Nat} {st : Z.S} {c c' : Z.C} {xq : Z.C → XQ}
end
section
variable {Z : Hid} {X : Cx} {E : XK} {O O' O'' OL : List Nat} {e a b : Expr} {es rest : List Expr} {me mb : EMV Z D} {ml : EMV Z (List D)} {pos p : Pos} {k k' : Nat} {ps : List Str} {sp : FSpV Z}
end
section
variable {Z : Hid} {P : Program} {w : World} {K : PySem.W.Frag} {mg : Str → Option Value} {base : Heap} {x qual : Str} {params : Arguments} {body : List Stmt} {scope : Scope} {dvs : List V} {kws : List (Str × V)} {f : Addr} {fd : FuncData}
end
end DL
namespace DL
open PySem PySem.Spec PyProof.Rows L2
variable [TabC]
/-! ### an evening: an instance with what stands here and the list of what stood earlier -/
mutual
/-- nothing in it is an evening or a list -/
def noEv : D → Bool
  | .lst _ => false
  | .tup ds => noEvL ds
  | .dic kvs => noEvK kvs
  | .dmx kvs => noEvP kvs
  | .obj _ fs => (fs.lookup ("earlier" : Str)).isNone && noEvF fs
  | .exc _ fs => noEvF fs
  | _ => true
def noEvL : List D → Bool
  | [] => true
  | d :: ds => noEv d && noEvL ds
def noEvK : List (Key × D) → Bool
  | [] => true
  | (_, d) :: ds => noEv d && noEvK ds
def noEvF : List (Str × D) → Bool
  | [] => true
  | (_, d) :: ds => noEv d && noEvF ds
def noEvP : List (D × D) → Bool
  | [] => true
  | (k, d) :: ds => noEv k && noEv d && noEvP ds
end
section
variable {K : PySem.W.Frag} {aS : Addr} {H : Hp} {A A' : AS}
mutual
theorem Rep.farE (h1 : ∀ b ys, A b → Rd H b (.dK ys) → A' b) (h2 : ∀ b m ys, A b → Rd H b (MD.MixO TabC.w m ys) → A' b) (h3 : ∀ b C dx (ys : List (Str × V)), A b → H b = some (.ins C dx ys) → ys.lookup ("earlier" : Str) = none → A' b) (h4 : ∀ b u, A b → XO u → H b = some u → A' b) : ∀ (d : D) (v : V), noEv d = true → Rep K aS H A' d v → Rep K aS H A d v
  | .non, v, _, h => by rw [Rep] at h ⊢; exact h
  | .bl b, v, _, h => by rw [Rep] at h ⊢; exact h
  | .int i, v, _, h => by rw [Rep] at h ⊢; exact h
  | .str x, v, _, h => by rw [Rep] at h ⊢; exact h
  | .raw u, v, n, h => by rw [Rep] at h ⊢; exact h
  | .st, v, n, h => by rw [Rep] at h ⊢; exact h
  | .lst ds, v, n, h => by simp [noEv] at n
  | .tup ds, v, n, h => by
    rw [noEv] at n
    rw [Rep] at h ⊢
    obtain ⟨a, xs, e, q, r⟩ := h
    exact ⟨a, xs, e, q, RepL.farE h1 h2 h3 h4 ds xs n r⟩
  | .dic kvs, v, n, h => by
    rw [noEv] at n
    rw [Rep] at h ⊢
    obtain ⟨a, ys, e, na, q, r⟩ := h
    exact ⟨a, ys, e, fun z => na (h1 a ys z q), q, RepK.farE h1 h2 h3 h4 kvs ys n r⟩
  | .dmx kvs, v, n, h => by
    rw [noEv] at n
    rw [Rep] at h ⊢
    obtain ⟨a, ys, e, na, q, r⟩ := h
    exact ⟨a, ys, e, fun z => na (h2 a _ ys z q), q, RepP.farE h1 h2 h3 h4 kvs ys n r⟩
  | .obj C fs, v, n, h => by
    rw [noEv, Bool.and_eq_true] at n
    rw [Rep] at h ⊢
    obtain ⟨a, dx, ys, e, na, q, r⟩ := h
    refine ⟨a, dx, ys, e, fun z => na (h3 a _ dx ys z q ?_), q, RepF.farE h1 h2 h3 h4 fs ys n.2 r⟩
    rcases repF_look ("earlier" : Str) r with z | ⟨d, v, z, _⟩
    · exact z.2
    · have := n.1
      rw [z] at this
      cases this
  | .exc C fs, v, n, h => by
    rw [noEv] at n
    rw [Rep] at h ⊢
    obtain ⟨a, e, na, h⟩ := h
    rcases h with ⟨h, z⟩ | ⟨x, ys, h, nx, hx, r⟩
    · exact ⟨a, e, fun z => na (h4 a _ z (.ex _ _ _) h), .inl ⟨h, z⟩⟩
    · exact ⟨a, e, fun z => na (h4 a _ z (.ex _ _ _) h), .inr ⟨x, ys, h, fun z => nx (h4 x _ z (.xd ys) hx), hx, RepF.farE h1 h2 h3 h4 fs ys n r⟩⟩
theorem RepL.farE (h1 : ∀ b ys, A b → Rd H b (.dK ys) → A' b) (h2 : ∀ b m ys, A b → Rd H b (MD.MixO TabC.w m ys) → A' b) (h3 : ∀ b C dx (ys : List (Str × V)), A b → H b = some (.ins C dx ys) → ys.lookup ("earlier" : Str) = none → A' b) (h4 : ∀ b u, A b → XO u → H b = some u → A' b) : ∀ (ds : List D) (vs : List V), noEvL ds = true → RepL K aS H A' ds vs → RepL K aS H A ds vs
  | [], vs, _, h => by rw [RepL] at h ⊢; exact h
  | d :: ds, vs, n, h => by
    rw [noEvL, Bool.and_eq_true] at n
    rw [RepL] at h ⊢
    obtain ⟨v, vr, e, r, q⟩ := h
    exact ⟨v, vr, e, Rep.farE h1 h2 h3 h4 d v n.1 r, RepL.farE h1 h2 h3 h4 ds vr n.2 q⟩
theorem RepK.farE (h1 : ∀ b ys, A b → Rd H b (.dK ys) → A' b) (h2 : ∀ b m ys, A b → Rd H b (MD.MixO TabC.w m ys) → A' b) (h3 : ∀ b C dx (ys : List (Str × V)), A b → H b = some (.ins C dx ys) → ys.lookup ("earlier" : Str) = none → A' b) (h4 : ∀ b u, A b → XO u → H b = some u → A' b) : ∀ (ds : List (Key × D)) (vs : List (Key × V)), noEvK ds = true → RepK K aS H A' ds vs → RepK K aS H A ds vs
  | [], vs, _, h => by rw [RepK] at h ⊢; exact h
  | (k, d) :: ds, vs, n, h => by
    rw [noEvK, Bool.and_eq_true] at n
    rw [RepK] at h ⊢
    obtain ⟨v, vr, e, r, q⟩ := h
    exact ⟨v, vr, e, Rep.farE h1 h2 h3 h4 d v n.1 r, RepK.farE h1 h2 h3 h4 ds vr n.2 q⟩
theorem RepF.farE (h1 : ∀ b ys, A b → Rd H b (.dK ys) → A' b) (h2 : ∀ b m ys, A b → Rd H b (MD.MixO TabC.w m ys) → A' b) (h3 : ∀ b C dx (ys : List (Str × V)), A b → H b = some (.ins C dx ys) → ys.lookup ("earlier" : Str) = none → A' b) (h4 : ∀ b u, A b → XO u → H b = some u → A' b) : ∀ (ds : List (Str × D)) (vs : List (Str × V)), noEvF ds = true → RepF K aS H A' ds vs → RepF K aS H A ds vs
  | [], vs, _, h => by rw [RepF] at h ⊢; exact h
  | (k, d) :: ds, vs, n, h => by
    rw [noEvF, Bool.and_eq_true] at n
    rw [RepF] at h ⊢
    obtain ⟨v, vr, e, r, q⟩ := h
    exact ⟨v, vr, e, Rep.farE h1 h2 h3 h4 d v n.1 r, RepF.farE h1 h2 h3 h4 ds vr n.2 q⟩
theorem RepP.farE (h1 : ∀ b ys, A b → Rd H b (.dK ys) → A' b) (h2 : ∀ b m ys, A b → Rd H b (MD.MixO TabC.w m ys) → A' b) (h3 : ∀ b C dx (ys : List (Str × V)), A b → H b = some (.ins C dx ys) → ys.lookup ("earlier" : Str) = none → A' b) (h4 : ∀ b u, A b → XO u → H b = some u → A' b) : ∀ (ds : List (D × D)) (vs : List MD.EntV), noEvP ds = true → RepP K aS H A' ds vs → RepP K aS H A ds vs
  | [], vs, _, h => by rw [RepP] at h ⊢; exact h
  | (k, d) :: ds, vs, n, h => by
    rw [noEvP, Bool.and_eq_true, Bool.and_eq_true] at n
    rw [RepP] at h ⊢
    obtain ⟨nk, kv, v, vr, e, z, rk, r, q⟩ := h
    exact ⟨nk, kv, v, vr, e, z, Rep.farE h1 h2 h3 h4 k kv n.1.1 rk, Rep.farE h1 h2 h3 h4 d v n.1.2 r, RepP.farE h1 h2 h3 h4 ds vr n.2 q⟩
end
end
structure EvAt (K : PySem.W.Frag) (aS : Addr) (H : Hp) (A : AS) (st : Addr × Addr) (c : D × List D) : Prop where
  ne : st.1 ≠ st.2
  ex : ∃ dx v xs, H st.1 = some (.ins (He.ga K "Evening") dx [("here", v), ("earlier", .ref st.2)]) ∧ H st.2 = some (.lst xs) ∧ Rep K aS H A c.1 v ∧ RepL K aS H A c.2 xs
def evD (c : D × List D) : D := .obj "Evening" [("here", c.1), ("earlier", .lst c.2)]
def EvZ : Hid where
  S := Addr × Addr
  C := D × List D
  own st b := b = st.1 ∨ b = st.2
  hd st := .ref st.1
  at_ := EvAt
  vw := evD
  no := noEv
  dom := by
    rintro K aS H A st c b ⟨_, dx, v, xs, e1, e2, _⟩ (rfl | rfl)
    · exact ⟨_, e1, fun _ z => (nomatch z), fun _ z => (nomatch z)⟩
    · exact ⟨_, e2, fun _ z => (nomatch z), fun _ z => (nomatch z)⟩
  mono := by
    rintro K aS H H' A A' st c S k ⟨ne, dx, v, xs, e1, e2, r1, r2⟩
    exact ⟨ne, dx, v, xs, k _ _ (.inl rfl) e1, k _ _ (.inr rfl) e2, Rep.mono S _ _ r1, RepL.mono S _ _ r2⟩
  rep := by
    rintro K aS H A A' st c ⟨ne, dx, v, xs, e1, e2, r1, r2⟩ h
    have le : ∀ b, A' b → A b := fun b z => (h b z).1
    unfold evD
    rw [Rep]
    refine ⟨st.1, dx, _, rfl, fun z => (h _ z).2 (.inl rfl), e1, ?_⟩
    rw [RepF]
    refine ⟨_, _, rfl, Rep.mono (sub_le le) _ _ r1, ?_⟩
    rw [RepF]
    refine ⟨_, _, rfl, ?_, by rw [RepF]⟩
    rw [Rep]
    exact ⟨st.2, xs, rfl, fun z => (h _ z).2 (.inr rfl), e2, RepL.mono (sub_le le) _ _ r2⟩
  far := by
    rintro K aS H A A' st c d v ⟨ne, dx, w, xs, e1, e2, _⟩ h n r
    refine Rep.farE (fun b ys z q => ?_) (fun b m ys z q => ?_) (fun b C dx ys z q l => ?_) (fun b u z hu q => ?_) d v n r
    · rcases h b z with z | rfl | rfl
      · exact z
      · rcases q with q | ⟨_, q⟩ <;> rw [e1] at q <;> cases q
      · rcases q with q | ⟨_, q⟩ <;> rw [e2] at q <;> cases q
    · rcases h b z with z | rfl | rfl
      · exact z
      · rcases q with q | ⟨_, q⟩ <;> rw [e1] at q <;> (unfold MD.MixO at q; cases q)
      · rcases q with q | ⟨_, q⟩ <;> rw [e2] at q <;> (unfold MD.MixO at q; cases q)
    · rcases h b z with z | rfl | rfl
      · exact z
      · rw [e1] at q
        cases q
        cases l
      · rw [e2] at q
        cases q
    · rcases h b z with z | rfl | rfl
      · exact z
      · rw [e1] at q
        exact (hu.nins _ _ _ (Option.some.inj q).symm).elim
      · rw [e2] at q
        exact (hu.nlst _ (Option.some.inj q).symm).elim
/-! ### its methods that change it -/
section
variable {X : Cx} {E : XK} {O O' O'' OL : List Nat} {e o : Expr} {es rest : List Expr} {mo : EM D} {me : EMV EvZ D} {ml : EMV EvZ (List D)} {pos p apos : Pos} {m : Str} {k k' j : Nat} {ps : List Str} {sp : FSpV EvZ} {dds : List D}
end
/-! ### what changes it -/
section
variable {Z : Hid} {K : PySem.W.Frag} {aS : Addr} {H H' H0 : Hp} {A0 : A0T} {O : List Nat} {σ : L2.St} {s : Ev} {n : Nat} {st : Addr × Addr} {c c' : D × List D} {b : Addr} {o o' : HO}
theorem StA.poke (h : StA K aS H n) (ho : H b = some o) (hb : b ≠ aS) (n1 : ∀ ps, o ≠ .tbl ps) (n2 : ∀ c q, o ≠ LamX.CodeO c q) (n3 : ∀ ps, o' ≠ .tbl ps) (n4 : ∀ ob u, o ≠ .frz ob u) : StA K aS (L2.upd H b o') n := by
  obtain ⟨a0, cs, i', g, m, d', z1, z2, ⟨ob, z3⟩, z4, z5, z6, z7, z8, z9, zt⟩ := h
  refine ⟨a0, cs, i', g, m, d', by rw [upd_ne (Ne.symm hb)]; exact z1, z2, ⟨ob, ?_⟩, z4, z5, z6, z7, z8, z9, tabs_poke zt ho n1 n2 n3⟩
  rw [upd_ne]
  · exact z3
  · intro z
    rw [z, ho] at z3
    cases z3
    exact n4 _ _ rfl
end
section
variable {X : Cx} {E : XK} {O O' O'' OL : List Nat} {e : Expr} {me : EMV EvZ D} {pos : Pos} {j : Nat} {x : Str}
theorem hnd {K : PySem.W.Frag} {aS : Addr} {H H0 : Hp} {A0 : A0T} {σ : L2.St} {s : Ev} {n : Nat} {v : V} (S : SR K aS O A0 H0 σ H s n) (hj : j ∉ O) (e : s[j]? = some (some (.raw v))) : σ[j]? = some (some v) := by
  obtain ⟨u, h, r⟩ := S.sh j _ e hj
  rw [Rep] at r
  rw [h, r]
end
end DL
namespace DL
open PySem PySem.Spec PyProof.Rows L2
variable [TabC]
/-! x = [a new dict, two new lists]; x[0].clear(); x[1].append(w1); x[2].append(w2) -/
def strsB (ds : List D) : Bool := ds.all fun d => match d with
  | .str _ => true
  | _ => false
theorem strsT_rep {K : PySem.W.Frag} {aS : Addr} {H H' : Hp} {A A' : AS} : ∀ {ds : List D} {vs : List V}, strsB ds = true → RepL K aS H A ds vs → RepL K aS H' A' ds vs
  | [], vs, _, r => by
    rw [RepL] at r ⊢
    exact r
  | d :: ds, vs, h, r => by
    unfold strsB at h
    rw [List.all_cons, Bool.and_eq_true] at h
    rw [RepL] at r ⊢
    obtain ⟨v, vr, e, r1, r2⟩ := r
    refine ⟨v, vr, e, ?_, strsT_rep h.2 r2⟩
    cases d with
    | str x => rw [Rep] at r1 ⊢; exact r1
    | _ => cases h.1
def sTold3 (i : Nat) (w1 w2 : Str) (m0 m1 m2 : EM D) (mr : SM) : SM := fun xq de s n => i < s.length ∧ m0 xq s n fun d0 n1 => m1 xq s n1 fun d1 n2 => m2 xq s n2 fun d2 n3 => ∃ kvs xs ys, d0 = .dic kvs ∧ d1 = .lst xs ∧ d2 = .lst ys ∧ (strsB xs = true ∧ strsB ys = true ∧ xs.length < LIM ∧ ys.length < LIM) ∧
  mr xq de (s.set i (some (.lst [.dic [], .lst (xs ++ [.str w1]), .lst (ys ++ [.str w2])]))) n3
section
variable {X : Cx} {E : XK} {O O' OL : List Nat} {e0 e1 e2 : Expr} {rest : List Stmt} {m0 m1 m2 : EM D} {mr : SM} {i : Nat} {x w1 w2 : Str}
theorem vss_told3 {p1 : Pos} {pl q1 q2 q3 q4 : Pos} {pa pb pc ps1 ps2 ps3 pq1 pq2 pq3 ap1 ap2 ap3 cp1 cp2 cp3 pw1 pw2 : Pos} {k0 k1' k2' jw1 jw2 : Nat} (hi : i ∉ O) (hnd : X.N.Nodup) (hN : X.N[i]? = some x) (hx : Loc X.env.scope x) (hv : Vis X.env.scope x)
    (F0 : VF X E O e0 m0) (F1 : VF X E O e1 m1) (F2 : VF X E O e2 m2) (hr : VSs X E O O' OL rest mr)
    (hs : swapsWith (.List [e0, e1, e2] pl) (some (.Name x p1)) q1.line X.env = pure false := by rfl)
    (hs1 : starEach [e0, e1, e2] X.env = (false, eval e0 X.env) :: starEach [e1, e2] X.env := by rfl) (hs2 : starEach [e1, e2] X.env = (false, eval e1 X.env) :: starEach [e2] X.env := by rfl) (hs3 : starEach [e2] X.env = (false, eval e2 X.env) :: starEach [] X.env := by rfl)
    (c1 : ∀ {to : TE}, PE X (.Subscript (.Name x pa) (.Constant (.int 0) k0 pq1) ps1) to → PE X (.Call (.Attribute (.Subscript (.Name x pa) (.Constant (.int 0) k0 pq1) ps1) "clear" ap1) [] [] cp1) (tBM0 X.K "dict" rClearK to) := by
      intro to h1; exact pe_bm0 PySem.F.plainAttrs_dict PySem.F.slot_dict_clear PySem.F.type_dict_clear mt_clearK h1)
    (c2 : ∀ {to : TE} {t : TA}, PE X (.Subscript (.Name x pb) (.Constant (.int 1) k1' pq2) ps2) to → PA X [.Constant (.str w1) jw1 pw1] t → PE X (.Call (.Attribute (.Subscript (.Name x pb) (.Constant (.int 1) k1' pq2) ps2) "append" ap2) [.Constant (.str w1) jw1 pw1] [] cp2) (tBM X.K "list" rAppend to t) := by
      intro to t h1 h2; exact pe_bm PySem.F.plainAttrs_list PySem.F.slot_list_append PySem.F.type_list_append mt_append h1 h2)
    (c3 : ∀ {to : TE} {t : TA}, PE X (.Subscript (.Name x pc) (.Constant (.int 2) k2' pq3) ps3) to → PA X [.Constant (.str w2) jw2 pw2] t → PE X (.Call (.Attribute (.Subscript (.Name x pc) (.Constant (.int 2) k2' pq3) ps3) "append" ap3) [.Constant (.str w2) jw2 pw2] [] cp3) (tBM X.K "list" rAppend to t) := by
      intro to t h1 h2; exact pe_bm PySem.F.plainAttrs_list PySem.F.slot_list_append PySem.F.type_list_append mt_append h1 h2)
    (t1 : swapsWith (.Call (.Attribute (.Subscript (.Name x pa) (.Constant (.int 0) k0 pq1) ps1) "clear" ap1) [] [] cp1) none q2.line X.env = pure false := by rfl)
    (t2 : swapsWith (.Call (.Attribute (.Subscript (.Name x pb) (.Constant (.int 1) k1' pq2) ps2) "append" ap2) [.Constant (.str w1) jw1 pw1] [] cp2) none q3.line X.env = pure false := by rfl)
    (t3 : swapsWith (.Call (.Attribute (.Subscript (.Name x pc) (.Constant (.int 2) k2' pq3) ps3) "append" ap3) [.Constant (.str w2) jw2 pw2] [] cp3) none q4.line X.env = pure false := by rfl)
    (hf : X.fn x = true ∨ X.env.scope.names.lookup x = some .local := by first | exact .inl rfl | exact .inr rfl | assumption)
    (hd : (x == ("__debug__" : Str)) = false := by decide) (hcd : (x == ("__classdict__" : Str)) = false := by decide) :
    VSs X E O O' OL (.Assign [.Name x p1] (.List [e0, e1, e2] pl) q1 :: .Expr (.Call (.Attribute (.Subscript (.Name x pa) (.Constant (.int 0) k0 pq1) ps1) "clear" ap1) [] [] cp1) q2 :: .Expr (.Call (.Attribute (.Subscript (.Name x pb) (.Constant (.int 1) k1' pq2) ps2) "append" ap2) [.Constant (.str w1) jw1 pw1] [] cp2) q3 ::
      .Expr (.Call (.Attribute (.Subscript (.Name x pc) (.Constant (.int 2) k2' pq3) ps3) "append" ap3) [.Constant (.str w2) jw2 pw2] [] cp3) q4 :: rest) (sTold3 i w1 w2 m0 m1 m2 mr) := by
  obtain ⟨mn0, ta, pea, fa⟩ := F0
  obtain ⟨mn1, tb, peb, fb⟩ := F1
  obtain ⟨mn2, tc, pec, fc⟩ := F2
  obtain ⟨tr, pr, fr⟩ := hr
  refine ⟨_, pss_cons (ps_set hnd hN hx (pe_lst (pa_cons pea (pa_cons peb (pa_cons pec pa_nil hs3) hs2) hs1)) hs hf) (pss_cons (ps_expr (c1 (pe_ix ix_list (pe_var hN hv hd hcd) pe_int (fun _ _ => rfl))) t1) (pss_cons (ps_expr (c2 (pe_ix ix_list (pe_var hN hv hd hcd) pe_int (fun _ _ => rfl)) (pa_cons pe_str pa_nil)) t2)
    (pss_cons (ps_expr (c3 (pe_ix ix_list (pe_var hN hv hd hcd) pe_int (fun _ _ => rfl)) (pa_cons pe_str pa_nil)) t3) pr))), fun aS A0 H0 σ H s n xq de De S L k h => ?_⟩
  obtain ⟨hL, h⟩ := h
  refine fa aS A0 H0 σ H s n _ _ S L (mn0 _ _ _ _ _ (fun d0 n1 q p0 Ha z0 ka sta o0 => ?_) h)
  have Sa := S.step ka sta
  refine fb aS A0 H0 σ Ha s n1 _ _ Sa L (mn1 _ _ _ _ _ (fun d1 n2 q p1 Hb z1 kb stb o1 => ?_) q)
  have Sb := Sa.step kb stb
  refine fc aS A0 H0 σ Hb s n2 _ _ Sb L (mn2 _ _ _ _ _ (fun d2 n3 q p2 Hc z2 kc stc o2 => ?_) q)
  have Sc := Sb.step kc stc
  obtain ⟨kvs, xs, ys, ed0, ed1, ed2, ⟨sx, sy, lx, ly⟩, qr⟩ := q
  subst ed0 ed1 ed2
  obtain ⟨ks, hk0, _⟩ := o0
  obtain ⟨us, hu0, ru⟩ := o1
  obtain ⟨ws, hw0, rw0⟩ := o2
  have n0 : p0 ≠ aS := fun z => S.new z0 (z ▸ AV.st)
  have n1' : p1 ≠ aS := fun z => Sa.new z1 (z ▸ AV.st)
  have n2' : p2 ≠ aS := fun z => Sb.new z2 (z ▸ AV.st)
  have hk1 : Hc p0 = some (.dK ks) := kc _ (.dK ks) (kb _ (.dK ks) hk0 n0) n0
  have hu1 : Hc p1 = some (.lst us) := kc _ (.lst us) hu0 n1'
  have a0 : H p0 = none := z0
  have g1 : H p1 = none := by
    cases e : H p1 with
    | none => rfl
    | some u => exact (KpS.gone ka z1 e n1').elim
  have g2 : H p2 = none := by
    cases e : H p2 with
    | none => rfl
    | some u => exact (KpS.gone (ka.trans kb) z2 e n2').elim
  have d01 : p0 ≠ p1 := ne_of_none hk0 z1
  have d02 : p0 ≠ p2 := ne_of_none (kb _ (.dK ks) hk0 n0) z2
  have d12 : p1 ≠ p2 := ne_of_none hu0 z2
  refine ⟨by rw [sizeLine_eq]; show 3 ≤ 16777216; decide, fun p hp => ?_⟩
  have e0 : p0 ≠ p := ne_of_none hk1 hp
  have e1 : p1 ≠ p := ne_of_none hu1 hp
  have e2 : p2 ≠ p := ne_of_none hw0 hp
  have il : i < σ.length := S.len ▸ hL
  have es : (σ.set i (some (.ref p)))[i]? = some (some (.ref p)) := by rw [List.getElem?_set_self il]
  have b0 : (L2.upd Hc p (.lst [.ref p0, .ref p1, .ref p2])) p = some (.lst [.ref p0, .ref p1, .ref p2]) := upd_same
  have b1 : (L2.upd Hc p (.lst [.ref p0, .ref p1, .ref p2])) p0 = some (.dK ks) := by rw [upd_ne e0]; exact hk1
  refine ⟨_, es, _, _, 0, .ref p0, rfl, rfl, SqL.of b0, rfl, .inr (.inr (.inl ⟨rfl, .inl ⟨_, b1⟩⟩)), p0, ks, rfl, rfl, b1, ?_⟩
  have b2 : (L2.upd (L2.upd Hc p (.lst [.ref p0, .ref p1, .ref p2])) p0 (.dK [])) p = some (.lst [.ref p0, .ref p1, .ref p2]) := by rw [upd_ne (Ne.symm e0)]; exact b0
  have b3 : (L2.upd (L2.upd Hc p (.lst [.ref p0, .ref p1, .ref p2])) p0 (.dK [])) p1 = some (.lst us) := by rw [upd_ne (Ne.symm d01), upd_ne e1]; exact hu1
  refine ⟨_, es, _, _, 1, .ref p1, rfl, rfl, SqL.of b2, rfl, .inl ⟨rfl, _, SqL.of b3⟩, p1, us, .str w1, rfl, rfl, b3, by rw [ru.length]; exact lim_lt lx, ?_⟩
  have b4 : (L2.upd (L2.upd (L2.upd Hc p (.lst [.ref p0, .ref p1, .ref p2])) p0 (.dK [])) p1 (.lst (us ++ [.str w1]))) p = some (.lst [.ref p0, .ref p1, .ref p2]) := by rw [upd_ne (Ne.symm e1)]; exact b2
  have b5 : (L2.upd (L2.upd (L2.upd Hc p (.lst [.ref p0, .ref p1, .ref p2])) p0 (.dK [])) p1 (.lst (us ++ [.str w1]))) p2 = some (.lst ws) := by rw [upd_ne (Ne.symm d12), upd_ne (Ne.symm d02), upd_ne e2]; exact hw0
  refine ⟨_, es, _, _, 2, .ref p2, rfl, rfl, SqL.of b4, rfl, .inl ⟨rfl, _, SqL.of b5⟩, p2, ws, .str w2, rfl, rfl, b5, by rw [rw0.length]; exact lim_lt ly, ?_⟩
  have st4 : StA X.K aS (L2.upd Hc p (.lst [.ref p0, .ref p1, .ref p2])) n3 := stc.upd hp
  have st5 := st4.poke (o' := .dK []) b1 n0 (fun _ z => nomatch z) (fun _ _ z => by unfold LamX.CodeO at z; cases z) (fun _ z => nomatch z) (fun _ _ z => nomatch z)
  have st6 := st5.poke (o' := .lst (us ++ [.str w1])) b3 n1' (fun _ z => nomatch z) (fun _ _ z => by unfold LamX.CodeO at z; cases z) (fun _ z => nomatch z) (fun _ _ z => nomatch z)
  have st7 := st6.poke (o' := .lst (ws ++ [.str w2])) b5 n2' (fun _ z => nomatch z) (fun _ _ z => by unfold LamX.CodeO at z; cases z) (fun _ z => nomatch z) (fun _ _ z => nomatch z)
  generalize hH7 : L2.upd (L2.upd (L2.upd (L2.upd Hc p (.lst [.ref p0, .ref p1, .ref p2])) p0 (.dK [])) p1 (.lst (us ++ [.str w1]))) p2 (.lst (ws ++ [.str w2])) = H7 at st7 ⊢
  have hpn : H p = none := by
    cases e : H p with
    | none => rfl
    | some u => exact (KpS.gone (ka.trans (kb.trans kc)) hp e (fun z => Sc.new hp (z ▸ AV.st))).elim
  have kp : KpS aS H H7 := fun b u e nb => by
    have q := ka.trans (kb.trans kc) b u e nb
    have : H7 b = Hc b := by
      rw [← hH7, upd_ne (ne_of_none e g2), upd_ne (ne_of_none e g1), upd_ne (ne_of_none e a0), upd_ne (ne_of_none e hpn)]
    rw [this]
    exact q
  have S7 := S.step kp st7
  have c0 : H7 p0 = some (.dK []) := by rw [← hH7, upd_ne d02, upd_ne d01, upd_same]
  have c1' : H7 p1 = some (.lst (us ++ [.str w1])) := by rw [← hH7, upd_ne d12, upd_same]
  have c2' : H7 p2 = some (.lst (ws ++ [.str w2])) := by rw [← hH7, upd_same]
  have cp' : H7 p = some (.lst [.ref p0, .ref p1, .ref p2]) := by rw [← hH7, upd_ne (Ne.symm e2)]; exact b4
  have str : ∀ w : Str, Rep X.K aS H7 (AV aS A0 O σ) (.str w) (.str w) := fun w => by rw [Rep]
  have r : Rep X.K aS H7 (AV aS A0 O σ) (.lst [.dic [], .lst (xs ++ [.str w1]), .lst (ys ++ [.str w2])]) (.ref p) := by
    rw [Rep]
    refine ⟨p, _, rfl, S.new hpn, cp', ?_⟩
    refine .cons ?_ (.cons ?_ (.cons ?_ RepL.nil))
    · rw [Rep]
      exact ⟨p0, [], rfl, S.new a0, .inl c0, by rw [RepK]⟩
    · rw [Rep]
      exact ⟨p1, _, rfl, S.new g1, c1', (strsT_rep sx ru).app (.cons (str w1) RepL.nil)⟩
    · rw [Rep]
      exact ⟨p2, _, rfl, S.new g2, c2', (strsT_rep sy rw0).app (.cons (str w2) RepL.nil)⟩
  exact fr aS A0 H0 _ H7 _ n3 xq de De (S7.set hi r) L k qr
end
def fTold3 (i : Nat) (w1 w2 : Str) (a b c : FM D) (f : FS) : FS := fun s => if i < s.length then (a s).so fun d0 => (b s).so fun d1 => (c s).so fun d2 => match d0, d1, d2 with
  | .dic _, .lst xs, .lst ys => if (strsB xs && strsB ys && decide (xs.length < LIM) && decide (ys.length < LIM)) = true then f (s.set i (some (.lst [.dic [], .lst (xs ++ [.str w1]), .lst (ys ++ [.str w2])]))) else .bad
  | _, _, _ => .bad
  else .bad
theorem ls_told3 {i : Nat} {w1 w2 : Str} {a b c : FM D} {f : FS} : ∀ xq de s n, upS (fTold3 i w1 w2 a b c f) xq de s n → sTold3 i w1 w2 (up a) (up b) (up c) (upS f) xq de s n := fun xq de s n h => by
  unfold upS fTold3 at h
  unfold sTold3
  by_cases hi : i < s.length
  · rw [if_pos hi] at h
    refine ⟨hi, ?_⟩
    unfold up
    refine wp_mono (fun d0 h => ?_) (wp_so h)
    refine wp_mono (fun d1 h => ?_) (wp_so h)
    refine wp_mono (fun d2 h => ?_) (wp_so h)
    cases d0 with
    | dic kvs =>
      cases d1 with
      | lst xs =>
        cases d2 with
        | lst ys =>
          have h : (if (strsB xs && strsB ys && decide (xs.length < LIM) && decide (ys.length < LIM)) = true then _ else SO.bad : SO).wp xq de n := h
          split at h
          · next hc =>
            rw [Bool.and_eq_true, Bool.and_eq_true, Bool.and_eq_true] at hc
            exact ⟨kvs, xs, ys, rfl, rfl, rfl, ⟨hc.1.1.1, hc.1.1.2, of_decide_eq_true hc.1.2, of_decide_eq_true hc.2⟩, h⟩
          · exact h.elim
        | _ => exact h.elim
      | _ => exact h.elim
    | _ => exact h.elim
  · rw [if_neg hi] at h
    exact h.elim
theorem told3E {i : Nat} {w1 w2 : Str} {a b c : FM D} {f : FS} {s : Ev} {kvs : List (Key × D)} {xs ys : List D} (hi : i < s.length) (h0 : a s = .ok (.dic kvs)) (h1 : b s = .ok (.lst xs)) (h2 : c s = .ok (.lst ys)) (hx : strsB xs = true) (hy : strsB ys = true) (lx : xs.length < LIM) (ly : ys.length < LIM) :
    fTold3 i w1 w2 a b c f s = f (s.set i (some (.lst [.dic [], .lst (xs ++ [.str w1]), .lst (ys ++ [.str w2])]))) := by
  unfold fTold3
  rw [if_pos hi, h0]
  show ((b s).so fun d1 => (c s).so fun d2 => _) = _
  rw [h1]
  show ((c s).so fun d2 => _) = _
  rw [h2]
  show (if (strsB xs && strsB ys && decide (xs.length < LIM) && decide (ys.length < LIM)) = true then _ else _) = _
  rw [hx, hy, decide_eq_true lx, decide_eq_true ly]
  rfl
end DL
namespace DL
open PySem PySem.Spec PyProof.Rows L2
variable [TabC]
def BodyQ (P : Program) (w : World) (K : PySem.W.Frag) (mg : Str → Option Value) (base : Heap) (C : Str) (N : List Str) (qual : Str) (scope : Scope) (k : Nat) (O' : List Nat) (body : List Stmt) (m : SM) : Prop :=
  ∀ (f : Addr) (cdv : Value) (A : Around) (outer : List Env) (s : Shared) (H : Hp) (E : XK), Room k (A.deeper (envOfC qual scope s.heap.objs.size f cdv)) → VSsQ (CxD P w K mg base N qual scope f cdv A outer s H E) (EU H E) C [0] O' [] body m
def BodyIt (P : Program) (w : World) (K : PySem.W.Frag) (mg : Str → Option Value) (base : Heap) (N : List Str) (qual : Str) (scope : Scope) (g : Str) (body : List Stmt) : Prop :=
  ∃ (z : Str) (e : Expr) (p1 p3 p4 : Pos), body = [.Return (some (.Call (.Name z p1) [e] [] p3)) p4] ∧ ∀ (f : Addr) (cdv : Value) (A : Around) (outer : List Env) (s : Shared) (H : Hp) (E : XK), PE (cxOf (CX P w) P w K mg base N qual scope f cdv A outer s H E) (.Call (.Name z p1) [e] [] p3) (tCB (rIterK s.heap.objs.size) (tCons (tFld K (tVar 0) g) tNil))
theorem git_of {P : Program} {w : World} {K : PySem.W.Frag} {mg : Str → Option Value} {base : Heap} {C g qual : Str} {params : Arguments} {body : List Stmt} {scope : Scope} {kws : List (Str × V)} {f : Addr} {fd : FuncData} {N : List Str} {y x : Str} {k : Nat}
    (hI : ItK K (He.ga K C) f) (F : FunD K x qual params body scope [] kws f fd) (hB : Binds K fd [y] []) (Sc : FnScope N [y] scope) (cl : Cls K (He.ga K C)) (na : NoAttr K (He.ga K C) g) (B : BodyIt P w K mg base N qual scope g body) : GIt P w K mg base C g (k + 1) := by
  obtain ⟨z, e, p1, p3, p4, rfl, h⟩ := B
  exact ⟨f, hI, dfnIt F Sc hB cl na fun cdv A outer s H E => h f cdv A outer s H E⟩
theorem gmkQ_of {P : Program} {w : World} {K : PySem.W.Frag} {mg : Str → Option Value} {base : Heap} {x C qual y : Str} {params : Arguments} {body : List Stmt} {scope : Scope} {dvs : List V} {kws : List (Str × V)} {f : Addr} {fd : FuncData} {N ps : List Str} {k : Nat} {b : FS} {Q' : List Nat}
    (gl : mg x = some (.ref (He.ga K C))) (mk : Mk K (He.ga K C) f) (hB : Binds K fd ps []) (F : FunD K y qual params body scope dvs kws f fd) (Sc : FnScope N ps scope) (h0 : 0 ∈ Q') (B : BodyQ P w K mg base C N qual scope k Q' body (upS b)) :
    GMkQ P w K mg base x C (k + 1) ps (FSp.of (runI C N b)) := ⟨f, fd, gl, mk, hB, dfnIQ F Sc h0 (fun cdv A outer s H E hr => B f cdv A outer s H E hr) meetsI⟩
end DL
namespace MD
open L2 PySem PySem.Spec PyProof.Rows
/-! ### a locked mixed dict, key by key -/
section
variable {Y : Cx} {ps : List (Addr × Obj)} {τ : L2.St} {G : Hp} {t : Shared} {d : Addr} {o : Obj} {ys : List EntV}
end
end MD
namespace MD
open L2 PySem PySem.Spec PyProof.Rows
/-! ### {k: v for x in ..}, keys of all sorts: the new dict is a mixed one -/
section
variable {Y : Cx} {ps : List (Addr × Obj)} {τ : L2.St} {G G' : Hp} {t : Shared} {E : Value → Shared → Prop}
end
section
variable {X : Cx} {kx vx tg iter : Expr} {scope : Scope} {own : List (Str × Nat)} {pos : Pos} {wi : TI} {g : TG} {tk tv : TE}
end
end MD
namespace MD
open PySem PySem.Spec PyProof.Rows L2
section
variable {K : PySem.W.Frag} {H H' : Hp}
end
section
variable {X : Cx} {x v : Str} {i j : Nat} {c : Int} {scope : Scope} {pos p1 p2 p3 p4 : Pos} {jj : Option Str}
end
end MD
namespace DL
open PySem PySem.Spec PyProof.Rows L2
variable [TabC]
section
variable {X : Cx} {E : XK} {O : List Nat} {x v : Str} {i j : Nat} {c : Int} {scope : Scope} {pos p1 p2 p3 p4 : Pos} {jj}
end
end DL
namespace MD
open PySem PySem.Spec PyProof.Rows L2
section
variable {prog : Program} {w : World} {A : Around} {E : Value → Shared → Prop} {s : Shared} {d : Addr} {xs : List Ent}
end
end MD
namespace DL
open PySem PySem.Spec PyProof.Rows L2
variable [TabC]
end DL
namespace MD
open PySem PySem.Spec PyProof.Rows L2
end MD
namespace DL
open PySem PySem.Spec PyProof.Rows L2
variable [TabC]
section
variable {X : Cx} {E : XK} {O : List Nat} {k v : Expr} {mk mv : EM D} {pos : Pos}
end
end DL
namespace DL
open PySem PySem.Spec PyProof.Rows L2
variable [TabC]
/-! a + b of lists, as a new list -/
section
variable {X : Cx} {E : XK} {O : List Nat} {a b : Expr} {ma mb : EM D} {pos : Pos}
end
end DL
namespace DL
open PySem PySem.Spec PyProof.Rows L2
variable [TabC]
/-! ### sorted by the names -/
def get {α : Type} [Inhabited α] (l : List (Str × α)) (x : Str) : α := (l.lookup x).getD default
def sortK {α : Type} [Inhabited α] (l : List (Str × α)) : List (Str × α) := (rise (keys l)).map fun x => (x, get l x)
theorem look_tab {α : Type} {f : Str → α} {y : Str} : ∀ xs : List Str, (xs.map fun x => (x, f x)).lookup y = if y ∈ xs then some (f y) else none
  | [] => rfl
  | x :: xs => by
    rw [List.map_cons, List.lookup_cons]
    by_cases e : y = x
    · subst e
      simp
    · have e2 : (y == x) = false := by simpa using e
      rw [e2, look_tab xs]
      simp [e]
section
variable {α β : Type} [Inhabited α] [Inhabited β]
theorem get_of {l : List (Str × α)} {x : Str} {a : α} (h : l.lookup x = some a) : get l x = a := by
  unfold get
  rw [h]
  rfl
theorem look_get {l : List (Str × α)} {x : Str} (h : x ∈ keys l) : l.lookup x = some (get l x) := by
  obtain ⟨a, e⟩ := look_mem h
  rw [get_of e, e]
theorem keys_sort (l : List (Str × α)) : keys (sortK l) = rise (keys l) := by
  unfold sortK keys
  rw [List.map_map]
  show (rise _).map (fun x => x) = _
  rw [List.map_id']
theorem mem_rise {xs : List Str} {x : Str} : x ∈ rise xs ↔ x ∈ xs := (rise_perm xs).mem_iff
theorem look_sort (l : List (Str × α)) (x : Str) : (sortK l).lookup x = l.lookup x := by
  unfold sortK
  rw [look_tab]
  by_cases h : x ∈ keys l
  · rw [if_pos (mem_rise.mpr h), look_get h]
  · rw [if_neg fun z => h (mem_rise.mp z), look_none h]
theorem get_sort (l : List (Str × α)) (x : Str) : get (sortK l) x = get l x := by
  unfold get
  rw [look_sort]
theorem len_sort (l : List (Str × α)) : (sortK l).length = l.length := by
  unfold sortK
  rw [List.length_map, rise_len, List.length_map]
theorem mem_keys {l : List (Str × α)} {x : Str} : x ∈ keys (sortK l) ↔ x ∈ keys l := by rw [keys_sort]; exact mem_rise
theorem nd_sort {l : List (Str × α)} (h : (keys l).Nodup) : (keys (sortK l)).Nodup := by
  rw [keys_sort]
  exact (rise_perm _).nodup_iff.mpr h
theorem mem_sort {l : List (Str × α)} (h : (keys l).Nodup) {p : Str × α} : p ∈ sortK l → p ∈ l := fun hp => by
  obtain ⟨x, a⟩ := p
  have := look_of (nd_sort h) hp
  rw [look_sort] at this
  exact look_some this
/-- the values turned -/
def mapV (f : α → β) (l : List (Str × α)) : List (Str × β) := l.map fun p => (p.1, f p.2)
end
/-! ### small answers -/
theorem v_is_among {α : Type} {f : α → D} {l : List (Str × α)} {x : Str} (h : x ∈ keys l) : f_is_among [.str x, .dic (mapD f l)] = .ok (.bl true) := by
  refine runB_rt (retE (andT rfl (binE rfl rfl ?_)))
  rw [dIn_map, look_isSome, decide_eq_true h]
theorem v_is_anchor {α : Type} {f : α → D} {l : List (Str × α)} {a : Str} (hk : ∀ x ∈ keys l, Good x) (h : a = "clock" ∨ a ∈ keys l) : f_is_anchor [.str a, .dic (mapD f l)] = .ok (.bl true) := by
  by_cases e : a = "clock"
  · subst e
    exact runB_rt (retE (orT (binE rfl rfl (dEq_str clock_ok clock_ok))))
  · have hm := h.resolve_left e
    have ho := (hk a hm).ok
    refine runB_rt (retE (orF (binE rfl rfl ?_) (binE rfl (bltE rfl (dList_map f l)) ?_)))
    · rw [dEq_str ho clock_ok]; simp [e]
    · rw [dIn_strs ho fun x hx => (hk x hx).ok, decide_eq_true hm]
/-! ### rounds -/
theorem v_check_rounds {l : Anc} {rk : Str → Nat} (A : Acy l rk) : f_check_rounds [.dic (mapD .str l)] = .ok .non := by
  have hl := A.len
  obtain ⟨s', e, x, rfl⟩ := for_inv (g := fgNm 1) (b := b_check_rounds_1) (fun s => ∃ x, s = [some (.dic (mapD .str l)), x]) ((rise (keys l)).map .str) [some (.dic (mapD .str l)), none] ⟨_, rfl⟩ (fun d hd s ⟨x, hs⟩ => by
    subst hs
    obtain ⟨y, hy, rfl⟩ := List.mem_map.mp hd
    have hy := mem_rise.mp hy
    refine ⟨_, rfl, _, ifsF (binTE (x := .str y) rfl (callE (ds := [.dic (mapD .str l), .str y]) rfl rfl (v_way_up A hy)) ?_) rfl, _, rfl⟩
    rw [dIn_strs (A.good y hy).ok fun z hz => (A.good z (chain_rk A y hy z hz).1).ok, decide_eq_false fun z => by have := (chain_rk A y hy y z).2; omega])
  exact runB_nx (forE (ds := (rise (keys l)).map .str) (iterE (callE (ds := [txs (keys l)]) (consE (bltE rfl (dList_map _ _)) rfl) rfl (v_rising (by rw [List.length_map]; omega))) rfl) e)
/-! ### books -/
def anc (rs : Row) : Anc := mapV (·.1) rs
theorem up_congr {l l' : Anc} (h : ∀ x, l.lookup x = l'.lookup x) : ∀ k x, upN l k x = upN l' k x
  | 0, _ => rfl
  | k + 1, x => by
    rw [upN, upN, h x]
    cases l'.lookup x with
    | none => rfl
    | some a => simp only [up_congr h k a]
theorem Acy.sort {l : Anc} {rk : Str → Nat} (A : Acy l rk) : Acy (sortK l) rk :=
  ⟨nd_sort A.nd, fun x hx => A.good x (mem_keys.mp hx), fun x a e => by
    rw [look_sort] at e
    exact (A.up x a e).imp id fun z => ⟨mem_keys.mpr z.1, z.2⟩, fun x hx => by rw [len_sort]; exact A.bd x (mem_keys.mp hx), by rw [len_sort]; exact A.len⟩
theorem chain_sort (l : Anc) (x : Str) : chain (sortK l) x = chain l x := by
  unfold chain
  rw [len_sort]
  exact up_congr (look_sort l) _ _
def addN (l : Row) : Nat → Str → Int
  | 0, _ => 0
  | k + 1, x => if (get l x).1 = "clock" then (get l x).2 else (get l x).2 + addN l k (get l x).1
def added (l : Row) (x : Str) : Int := addN l l.length x
end DL
namespace DL
open PySem PySem.Spec PyProof.Rows L2
variable [TabC]
/-! ### moments and wishes -/
/-- a row of things, as a list or a tuple -/
def rowD (tp : Bool) (ds : List D) : D := if tp then .tup ds else .lst ds
theorem enumE {a : FM D} {s : Ev} {d : D} {ds : List D} (h : a s = .ok d) (h2 : dSeq d = some ds) : fEnum a s = .ok (pairsD 0 ds) := by
  unfold fEnum
  rw [h]
  show (ofO (dSeq d)).bind _ = _
  rw [h2]
  rfl
/-! ### meals -/
/-! ### ways, what is not shared -/
def wayM (l : Anc) : Mo → List Str
  | .clock => []
  | .start x => chain l x
  | .done x => chain l x ++ [x]
def usum (f : Str → Int) (xs ys : List Str) : Int := ((xs.filter fun x => !decide (x ∈ ys)).map f).sum
def uns (bs : Dis) (l : Anc) (one other : Mo) : Int := usum (fun x => (get bs x).2) (wayM l other) (wayM l one) - usum (fun x => (get bs x).1) (wayM l one) (wayM l other)
/-! ### how far moments lie apart -/
def wsum (rs : Row) : Mo → Int
  | .clock => 0
  | .start x => added rs x
  | .done x => added rs x
def behd (bs : Dis) (rs : Row) (one other : Mo) : Int := wsum rs other - wsum rs one + uns bs (anc rs) one other
/-! ### slacks, most_behind -/
end DL
namespace DL
open PySem PySem.Spec PyProof.Rows L2
variable [TabC]
/-! ### the same thing is the same -/
def Pl : Nat → D → Prop
  | _, .int _ => True
  | _, .bl _ => True
  | _, .non => True
  | _, .str x => sOk x
  | _, .dic kvs => kvs = []
  | k + 1, .lst xs => xs.length ≤ 1000 ∧ ∀ x ∈ xs, Pl k x
  | k + 1, .tup xs => xs.length ≤ 1000 ∧ ∀ x ∈ xs, Pl k x
  | _, _ => False
theorem zip_self (xs : List D) : zipD xs xs = xs.map fun x => .tup [x, x] := by
  induction xs with
  | nil => rfl
  | cons x xs ih => rw [zipD, ih]; rfl
theorem bools_true {α : Type} : ∀ xs : List α, boolsD (xs.map fun _ => .bl true) = some (xs.map fun _ => true)
  | [] => rfl
  | x :: xs => by
    rw [List.map_cons]
    show (boolsD _).map _ = _
    rw [bools_true xs]
    rfl
theorem all_true {α : Type} (xs : List α) : dAll [.lst (xs.map fun _ => .bl true)] = some (.bl true) := by
  show (boolsD _).map _ = _
  rw [bools_true]
  show some (D.bl ((xs.map fun _ => true).all id)) = _
  rw [List.all_map]
  simp
theorem v_same : ∀ (k : Nat) (d : D), Pl k d → r__law_same (k + 1) [d, d] = .ok (.bl true)
  | k, .int i, _ => by
    rw [r__law_same]
    exact runB_rt (seqN (ifsF rfl rfl) (seqR (ifsT rfl (retE (andT rfl (andT rfl (binE rfl rfl (show dEq (.int i) (.int i) = some (.bl true) by rw [dEq_int]; simp))))))))
  | k, .bl i, _ => by
    rw [r__law_same]
    exact runB_rt (seqN (ifsF rfl rfl) (seqR (ifsT rfl (retE (andT rfl (andT rfl (binE rfl rfl (by cases i <;> rfl))))))))
  | k, .non, _ => by
    rw [r__law_same]
    exact runB_rt (seqN (ifsF rfl rfl) (seqN (ifsF rfl rfl) (retE (andT rfl (binE rfl rfl rfl)))))
  | k, .dic kvs, h => by
    have h : kvs = [] := by cases k <;> exact h
    subst h
    rw [r__law_same]
    exact runB_rt (seqN (ifsF rfl rfl) (seqN (ifsF rfl rfl) (retE (andT rfl (binE rfl rfl rfl)))))
  | k, .str x, h => by
    have h : sOk x := by cases k <;> exact h
    rw [r__law_same]
    exact runB_rt (seqN (ifsF rfl rfl) (seqN (ifsF rfl rfl) (retE (andT rfl (binE rfl rfl (show dEq (.str x) (.str x) = some (.bl true) by rw [dEq_str h h]; simp))))))
  | k + 1, .lst xs, h => by
    rw [r__law_same]
    refine runB_rt (seqR (ifsT rfl (seqN (ifsF rfl rfl) (retE (andT (binE rfl rfl (show dEq (.int xs.length) (.int xs.length) = some (.bl true) by rw [dEq_int]; simp)) (bltE (consE (lcE (ds := zipD xs xs) rfl ?_ ?_) rfl) (all_true xs)))))))
    · rw [zip_self, List.length_map]; have := h.1; unfold LIM; omega
    · rw [zip_self]
      exact lc_map (fun x => D.tup [x, x]) (fun _ => .bl true) xs fun x hx => ⟨_, rfl, callE (ds := [x, x]) rfl rfl (v_same k x (h.2 x hx))⟩
  | k + 1, .tup xs, h => by
    rw [r__law_same]
    refine runB_rt (seqR (ifsT rfl (seqN (ifsF rfl rfl) (retE (andT (binE rfl rfl (show dEq (.int xs.length) (.int xs.length) = some (.bl true) by rw [dEq_int]; simp)) (bltE (consE (lcE (ds := zipD xs xs) rfl ?_ ?_) rfl) (all_true xs)))))))
    · rw [zip_self, List.length_map]; have := h.1; unfold LIM; omega
    · rw [zip_self]
      exact lc_map (fun x => D.tup [x, x]) (fun _ => .bl true) xs fun x hx => ⟨_, rfl, callE (ds := [x, x]) rfl rfl (v_same k x (h.2 x hx))⟩
  | 0, .lst _, h => h.elim
  | 0, .tup _, h => h.elim
  | 0, .raw _, h => h.elim
  | 0, .st, h => h.elim
  | 0, .dmx _, h => h.elim
  | _ + 1, .dmx _, h => h.elim
  | 0, .obj _ _, h => h.elim
  | 0, .exc _ _, h => h.elim
  | _ + 1, .raw _, h => h.elim
  | _ + 1, .st, h => h.elim
  | _ + 1, .obj _ _, h => h.elim
  | _ + 1, .exc _ _, h => h.elim
end DL
namespace DL
open PySem PySem.Spec PyProof.Rows L2
variable [TabC]
end DL
namespace DL
open PySem PySem.Spec PyProof.Rows L2
variable [TabC]
abbrev N_Hanging___init__ : List Str := ["self", "rows", "name", "anchor"]
def b_Hanging___init___1 : FS := (fIfS (fOrT (fNotT (fVal (fCall 1 f_is_name [] (fCons (fVar 2) fNil)))) (fNotT (fVal (fCall 2 f_is_anchor [] (fCons (fVar 3) (fCons (fVar 1) fNil)))))) (fRaise "BadRow" ["name"] (fCons (fVar 2) fNil)) fNilS)
def B_Hanging___init__ : FS :=
  (fSeq (fForD (fun s => (s[1]?).join) itemsD (fgTp (fgsCons (fgNm 2) (fgsCons (fgNm 3) fgsNil))) (b_Hanging___init___1)) (fSeq (fDrop (fCall 1 f_check_rounds [] (fCons (fVar 1) fNil))) (fFldS 0 "Hanging" "anchors" (fDc (fIter (fCall 1 f_rising [] (fCons (fBlt dList (fCons (fVar 1) fNil)) fNil))) [2] (fgNm 2) fYes (fVar 2) (fBin dIdx (fVar 1) (fVar 2))))))
def f_Hanging___init__ : FFn := runI "Hanging" N_Hanging___init__ B_Hanging___init__
end DL
namespace DL
open PySem PySem.Spec PyProof.Rows L2
variable [TabC]
/-! ### hangings -/
/-! ### unlike dishes -/
/-! ### how much later -/
end DL
namespace DL
open PySem PySem.Spec PyProof.Rows L2
variable [TabC]
/-! ### the drawing helpers keep their promises -/
theorem upE {α : Type} {f : FM α} {xq : XQ} {s : Ev} {n : Nat} {Q : α → Nat → Prop} {a : α} (h : f s = .ok a) (q : Q a n) : up f xq s n Q := by
  unfold up
  rw [h]
  exact q
theorem upSN {f : FS} {xq : XQ} {de : DE} {s s' : Ev} {n : Nat} (h : f s = .nx s') (q : de.nx s' n) : upS f xq de s n := by
  unfold upS
  rw [h]
  exact q
theorem seqU {f : FS} {r : SM} {xq : XQ} {de : DE} {s s' : Ev} {n : Nat} (h : f s = .nx s') (q : r xq de s' n) : sSeq (upS f) r xq de s n := by
  unfold sSeq upS
  rw [h]
  exact q
theorem seqM {m r : SM} {xq : XQ} {de : DE} {s : Ev} {n : Nat} (h : m xq { de with nx := fun s' n' => r xq de s' n' } s n) : sSeq m r xq de s n := h
section
variable {xq : XQ} {s : Ev} {n : Nat} {Q : D → Nat → Prop} {QL : List D → Nat → Prop} {a b : FM D} {l : FM (List D)} {m m2 : EM D} {ml : EM (List D)} {d d' : D}
theorem consU (h : a s = .ok d) (q : ml xq s n fun ds n' => QL (d :: ds) n') : eCons (up a) ml xq s n QL := by
  unfold eCons up
  rw [h]
  exact q
theorem consM (h : m xq s n fun d n1 => ml xq s n1 fun ds n2 => QL (d :: ds) n2) : eCons m ml xq s n QL := h
theorem nilU (q : QL [] n) : up fNil xq s n QL := q
theorem callM {len : Nat} {sp : FSp} {dds ds : List D} (h : l s = .ok ds) (hl : (ds ++ dds).length = len) (q : sp.run (ds ++ dds) n Q xq) : eCall len sp dds (up l) xq s n Q := by
  unfold eCall up
  rw [h]
  exact ⟨hl, q⟩
theorem callMM {len : Nat} {sp : FSp} {dds : List D} (q : ml xq s n fun ds n1 => (ds ++ dds).length = len ∧ sp.run (ds ++ dds) n1 Q xq) : eCall len sp dds ml xq s n Q := q
theorem setM {i : Nat} {de : DE} (h : m xq s n fun d n' => de.nx (s.set i (some d)) n') : sSet i m xq de s n := h
theorem forU {i : FM (List D)} {g : DG} {mb : SM} {de : DE} {ds : List D} (h : i s = .ok ds) (q : sForL g mb xq de ds s n) : sFor (up i) g mb xq de s n := by
  unfold sFor up
  rw [h]
  exact q
theorem dputM {i : Nat} {mk : EM D} {de : DE} (q : m xq s n fun d n1 => mk xq s n1 fun k n2 => ∃ kk kvs, keyD k = some kk ∧ s[i]? = some (some (.dic kvs)) ∧ kvs.length < LIM ∧ de.nx (s.set i (some (.dic (putD kvs kk d)))) n2) : sDput i mk m xq de s n := q
end
theorem sfor_go {α : Type} {g : FG} {mb : SM} {xq : XQ} {de : DE} (f : α → D) (I : List α → Ev → Nat → Prop) (L : List α) (hd : ∀ s' n', I L s' n' → de.nx s' n')
    (st : ∀ acc d post s n (de' : DE), acc ++ d :: post = L → I acc s n → (∀ s2 n2, I (acc ++ [d]) s2 n2 → de'.nx s2 n2) → ∃ s1, g (f d) s = some s1 ∧ mb xq de' s1 n) : ∀ (ds acc : List α) (s : Ev) (n : Nat), acc ++ ds = L → I acc s n → sForL (upG g) mb xq de (ds.map f) s n
  | [], acc, s, n, e, h => hd s n (by rw [List.append_nil] at e; rw [← e]; exact h)
  | d :: ds, acc, s, n, e, h => by
    obtain ⟨s1, e1, w⟩ := st acc d ds s n { de with nx := fun s2 n2 => sForL (upG g) mb xq de (ds.map f) s2 n2, ct := fun s2 n2 => sForL (upG g) mb xq de (ds.map f) s2 n2, bk := de.nx } e h fun s2 n2 h2 => sfor_go f I L hd st ds (acc ++ [d]) s2 n2 (by rw [List.append_assoc]; exact e) h2
    exact ⟨s1, e1, w⟩
theorem sfor_acc {α : Type} {g : FG} {mb : SM} {xq : XQ} {de : DE} (f : α → D) (I : List α → Ev → Nat → Prop) (L : List α) {s : Ev} {n : Nat} (h0 : I [] s n) (hd : ∀ s' n', I L s' n' → de.nx s' n')
    (st : ∀ acc d post s n (de' : DE), acc ++ d :: post = L → I acc s n → (∀ s2 n2, I (acc ++ [d]) s2 n2 → de'.nx s2 n2) → ∃ s1, g (f d) s = some s1 ∧ mb xq de' s1 n) : sForL (upG g) mb xq de (L.map f) s n := sfor_go f I L hd st L [] s n rfl h0
theorem sfore_go {α : Type} {g : FG} {mb : SM} {xq : XQ} {de : DE} (f : α → D) (I : List α → Ev → Nat → Prop) (L : List α) (hd : ∀ s' n', I L s' n' → de.nx s' n')
    (st : ∀ acc d post s n (de' : DE), acc ++ d :: post = L → I acc s n → (∀ s2 n2, I (acc ++ [d]) s2 n2 → de'.nx s2 n2) → ∃ s1, g (.tup [.int (acc.length : Nat), f d]) s = some s1 ∧ mb xq de' s1 n) : ∀ (ds acc : List α) (s : Ev) (n : Nat), acc ++ ds = L → I acc s n → sForL (upG g) mb xq de (pairsD acc.length (ds.map f)) s n
  | [], acc, s, n, e, h => hd s n (by rw [List.append_nil] at e; rw [← e]; exact h)
  | d :: ds, acc, s, n, e, h => by
    rw [List.map_cons, pairsD]
    obtain ⟨s1, e1, w⟩ := st acc d ds s n { de with nx := fun s2 n2 => sForL (upG g) mb xq de (pairsD (acc.length + 1) (ds.map f)) s2 n2, ct := fun s2 n2 => sForL (upG g) mb xq de (pairsD (acc.length + 1) (ds.map f)) s2 n2, bk := de.nx } e h fun s2 n2 h2 => by
      have := sfore_go f I L hd st ds (acc ++ [d]) s2 n2 (by rw [List.append_assoc]; exact e) h2
      rw [List.length_append, List.length_singleton] at this
      exact this
    exact ⟨s1, e1, w⟩
theorem sfor_enum {α : Type} {g : FG} {mb : SM} {xq : XQ} {de : DE} (f : α → D) (I : List α → Ev → Nat → Prop) (L : List α) {s : Ev} {n : Nat} (h0 : I [] s n) (hd : ∀ s' n', I L s' n' → de.nx s' n')
    (st : ∀ acc d post s n (de' : DE), acc ++ d :: post = L → I acc s n → (∀ s2 n2, I (acc ++ [d]) s2 n2 → de'.nx s2 n2) → ∃ s1, g (.tup [.int (acc.length : Nat), f d]) s = some s1 ∧ mb xq de' s1 n) : sForL (upG g) mb xq de (pairsD 0 (L.map f)) s n := sfore_go f I L hd st L [] s n rfl h0
theorem nat_of {r : Int} (h : 0 ≤ r) : ∃ j : Nat, r = j := ⟨r.toNat, by omega⟩
theorem M__law_one : Meets 2 N__law_one sp__law_one B__law_one := by
  intro ds n Q xq hl h
  obtain ⟨xs, rfl, h1, h2, h3, q⟩ := h
  refine ⟨rfl, (xs.length : Int), rfl, by omega, by omega, h3, fun r r0 r1 => ?_⟩
  obtain ⟨j, rfl⟩ := nat_of r0
  have hj : j < xs.length := by omega
  exact ⟨xs[j], by rw [dIdx_lst]; simp [hj], q _ (List.getElem_mem hj)⟩
theorem erase_perm {α : Type} : ∀ (j : Nat) (l : List α) (h : j < l.length), (l[j] :: l.eraseIdx j).Perm l
  | _, [], h => by simp at h
  | 0, x :: xs, h => List.Perm.refl _
  | j + 1, x :: xs, h => by
    have h' : j < xs.length := by simpa using h
    show (xs[j] :: x :: xs.eraseIdx j).Perm (x :: xs)
    exact (List.Perm.swap x xs[j] _).trans (List.Perm.cons x (erase_perm j xs h'))
theorem erase_len {α : Type} : ∀ (j : Nat) (l : List α), j < l.length → (l.eraseIdx j).length + 1 = l.length
  | _, [], h => by simp at h
  | 0, x :: xs, h => rfl
  | j + 1, x :: xs, h => by
    have h' : j < xs.length := by simpa using h
    show (xs.eraseIdx j).length + 1 + 1 = xs.length + 1
    rw [erase_len j xs h']
theorem pyEq_nil (xs : List D) : pyEq (.lst xs) (.lst []) = xs.isEmpty := by cases xs <;> rfl
theorem nil_ok : okD (.lst []) = true := (OkN.lst (k := 0) (xs := []) (fun _ h => nomatch h)).ok (by decide)
theorem M__law_mix : Meets 2 N__law_mix sp__law_mix B__law_mix := by
  intro ds n Q xq hl h
  obtain ⟨xs, hds, h1, hok, h2, q⟩ := h
  have first : ∀ T, ds = [.st, T] → (T = .lst xs ∨ T = .tup xs) → B__law_mix xq { nx := fun _ n' => Q .non n', rt := Q } (startD N__law_mix ds) n := by
    intro T ed hT
    subst ed
    have e0 : fBlt dList (fCons (fVar 1) fNil) (startD N__law_mix [.st, T]) = .ok (.lst xs) := by
      rcases hT with z | z <;> subst z <;> exact bltE rfl rfl
    refine upSN (parFFE (show 2 < 4 by decide) (show 3 < 4 by decide) e0 rfl) ⟨xs.length + 1, ?_⟩
    have key : ∀ (k : Nat) (left found : List D) (n : Nat), left.length = k → (found ++ left).Perm xs → n + k < 2 ^ 32 → (∀ ys : List D, ys.Perm xs → Q (.lst ys) (n + k)) →
        sWhileN (up (fBinT dNe (fVar 2) (fLst fNil))) (sAppPop 3 2 (eCall 2 sp__law_take [] (up (fCons (fVar 0) (fCons (fBlt dLen (fCons (fVar 2) fNil)) fNil))))) xq { nx := fun s' n' => upS (fRet (fVar 3)) xq { nx := fun _ n' => Q .non n', rt := Q } s' n', rt := Q } (k + 1)
          [some .st, some T, some (.lst left), some (.lst found)] n := by
      intro k
      induction k with
      | zero =>
        intro left found n hk hp hn q
        have e : left = [] := List.eq_nil_of_length_eq_zero hk
        subst e
        rw [List.append_nil] at hp
        refine upE (a := false) (binTE rfl rfl (dNe_ok nil_ok nil_ok)) ?_
        exact q found hp
      | succ k ih =>
        intro left found n hk hp hn q
        have hlen : found.length + left.length = xs.length := by rw [← List.length_append]; exact hp.length_eq
        have hle : ∀ x ∈ left, OkN 60 x := fun x hx => hok x (hp.subset (List.mem_append_right _ hx))
        have ht : dNe (.lst left) (.lst []) = some (.bl true) := by
          rw [dNe_ok ((OkN.lst hle).ok (by decide)) nil_ok, pyEq_nil]
          cases left with
          | nil => cases hk
          | cons x l => rfl
        refine upE (a := true) (binTE rfl rfl ht) ?_
        refine ⟨found, left, rfl, rfl, rfl, (left.length : Int), rfl, by omega, by omega, by omega, fun r r0 r1 => ?_⟩
        obtain ⟨j, rfl⟩ := nat_of r0
        have hj : j < left.length := by omega
        refine ⟨j, left[j], rfl, by simp [hj], by unfold LIM; omega, by unfold LIM; omega, ?_⟩
        have hp2 : (found ++ [left[j]] ++ left.eraseIdx j).Perm xs := by
          refine List.Perm.trans ?_ hp
          rw [List.append_assoc]
          exact List.Perm.append_left _ (erase_perm j left hj)
        refine ih (left.eraseIdx j) (found ++ [left[j]]) (n + 1) (by have := erase_len j left hj; omega) hp2 (by omega) (fun ys hy => ?_)
        have := q ys hy
        rw [show n + (k + 1) = n + 1 + k by omega] at this
        exact this
    exact key xs.length xs [] n rfl (List.Perm.refl _) (by omega) q
  rcases hds with z | z
  · exact first _ z (.inl rfl)
  · exact first _ z (.inr rfl)
theorem names_ok : ∀ x ∈ NAMES, isGood x = true := by decide +kernel
theorem names_good {x : Str} (h : x ∈ NAMES) : Good x := good_of (names_ok x h)
theorem cut_to (xs : List D) (k : Nat) : cutL xs none (some (k : Int)) = xs.take k := by
  unfold cutL
  rw [HT.sIx_none, HT.sIx_nat, List.drop_zero, Nat.sub_zero]
  rcases Nat.le_total k xs.length with h | h
  · rw [Nat.min_eq_left h]
  · rw [Nat.min_eq_right h, List.take_length, List.take_of_length_le h]
theorem M__law_names : Meets 2 N__law_names sp__law_names B__law_names := by
  intro ds n Q xq hl h
  obtain ⟨k, rfl, h2, q⟩ := h
  unfold B__law_names
  refine seqU (s' := [some .st, some (.int k), some (txs (NAMES.take 8))]) rfl ⟨rfl, ?_⟩
  refine mix_strs (xs := NAMES) (by decide) (fun x hx => (names_good hx).ok) h2 fun ys p => ?_
  refine ⟨_, rfl, ?_⟩
  have e : cutL (ys.map D.str) none (some (k : Int)) = (ys.take k).map .str := by rw [cut_to, List.map_take]
  rw [e]
  exact q ys p
theorem nd_pre {L acc post : List Str} {d : Str} (hn : L.Nodup) (e : acc ++ d :: post = L) : d ∉ acc := fun z => by
  rw [← e] at hn
  exact (List.nodup_append.mp hn).2.2 _ z _ List.mem_cons_self rfl
end DL
namespace DL
open PySem PySem.Spec PyProof.Rows L2
variable [TabC]
theorem take_run {n : Nat} {k : Int} {Q : D → Nat → Prop} {xq : XQ} (h0 : 0 < k) (h1 : k < 2 ^ 32) (h2 : n < 2 ^ 32) (q : ∀ r : Int, 0 ≤ r → r < k → Q (.int r) (n + 1)) : sp__law_take.run [.st, .int k] n Q xq := ⟨k, rfl, h0, h1, h2, q⟩
theorem one_strs {n : Nat} {xs : List Str} {Q : D → Nat → Prop} {xq : XQ} (h0 : 0 < xs.length) (h1 : xs.length ≤ 1000) (h2 : n < 2 ^ 32) (q : ∀ x, x ∈ xs → Q (.str x) (n + 1)) : sp__law_one.run [.st, txs xs] n Q xq := by
  refine ⟨_, rfl, by rw [List.length_map]; exact h0, by rw [List.length_map]; exact h1, h2, fun x hx => ?_⟩
  obtain ⟨y, hy, rfl⟩ := List.mem_map.mp hx
  exact q y hy
/-! ### hangings, waits -/
theorem hung_snoc : ∀ {l : Anc} {up : List Str} {x a : Str}, Hung l up → (a = "clock" ∨ a ∈ up ++ keys l) → Hung (l ++ [(x, a)]) up
  | [], up, x, a, _, h => ⟨by rw [keys, List.map_nil, List.append_nil] at h; exact h, trivial⟩
  | (y, b) :: l, up, x, a, hl, h => ⟨hl.1, hung_snoc hl.2 (by rw [List.append_assoc]; exact h)⟩
theorem M__law_hung : Meets 2 N__law_hung sp__law_hung B__law_hung := by
  intro ds n Q xq hl h
  obtain ⟨xs, rfl, h1, hn, hok, h2, q⟩ := h
  unfold B__law_hung
  refine ⟨show 3 < 6 by decide, rfl, mix_strs h1 hok (by omega) fun ys hp => ?_⟩
  have hyn : ys.Nodup := hp.nodup_iff.mpr hn
  have hyl : ys.length = xs.length := hp.length_eq
  show sSeq (sFor (up (fEnum (fVar 2))) _ _) _ xq _ [some .st, some (txs xs), some (txs ys), some (.dic []), none, none] (n + xs.length)
  refine seqM (forU (i := fEnum (fVar 2)) (enumE (d := txs ys) (ds := ys.map .str) rfl rfl) ?_)
  refine sfor_enum D.str (fun acc s m => ∃ (l : Anc) (x4 x5 : Option D), keys l = acc ∧ Hung l [] ∧ m = n + xs.length + acc.length ∧ s = [some .st, some (txs xs), some (txs ys), some (.dic (mapD .str l)), x4, x5]) ys ⟨[], none, none, rfl, trivial, by simp, rfl⟩ ?_ ?_
  · rintro s' n' ⟨l, x4, x5, hk, hb, rfl, rfl⟩
    have := q l (by show (keys l).Perm xs; rw [hk]; exact hp) hb
    rw [show n + 2 * xs.length = n + xs.length + ys.length by omega] at this
    exact this
  · rintro acc d post s m de' e ⟨l, x4, x5, hk, hb, rfl, rfl⟩ hq
    have hlt := len_pre e
    have e1 : fBin dAdd (fLst (fCons (fC (.str "clock")) fNil)) (fSl (fVar 2) fNone (fSome (fVar 4))) [some .st, some (txs xs), some (txs ys), some (.dic (mapD .str l)), some (.int (acc.length : Nat)), some (.str d)] = .ok (txs ("clock" :: acc)) := by
      refine binE (x := .lst [.str "clock"]) (y := txs acc) rfl ?_ ?_
      · show Res.ok (D.lst (cutL (ys.map D.str) none (some (acc.length : Int)))) = _
        rw [cut_to, ← List.map_take, ← e, List.take_left' rfl]
      · show (if 1 + (acc.map D.str).length ≤ LIM then some (D.lst ([.str "clock"] ++ acc.map D.str)) else none) = _
        rw [if_pos (by rw [List.length_map]; unfold LIM; omega)]
        rfl
    refine ⟨_, rfl, dputM (callM (ds := [.st, txs ("clock" :: acc)]) (consE rfl (consE e1 rfl)) rfl (one_strs (by rw [List.length_cons]; omega) (by rw [List.length_cons]; omega) (by omega) fun a ha => ⟨.inr d, mapD .str l, rfl, rfl, ?_, ?_⟩))⟩
    · have : l.length = acc.length := by rw [← hk, List.length_map]
      unfold mapD
      rw [List.length_map]
      exact lim_of (by omega)
    · refine hq _ _ ⟨l ++ [(d, a)], some (.int (acc.length : Nat)), some (.str d), ?_, hung_snoc hb ?_, ?_, ?_⟩
      · show (l ++ _).map (·.1) = _
        rw [List.map_append]
        show keys l ++ [d] = _
        rw [hk]
      · rw [List.nil_append, hk]
        exact List.mem_cons.mp ha
      · rw [List.length_append, List.length_singleton]; omega
      · rw [← put_new (f := D.str) (by show d ∉ keys l; rw [hk]; exact nd_pre hyn e)]
        rfl
theorem merge_go {α : Type} {f : α → D} : ∀ (r acc : List (Str × α)), (keys acc ++ keys r).Nodup → mergeD (mapD f acc) (mapD f r) = mapD f (acc ++ r)
  | [], acc, _ => by rw [List.append_nil]; rfl
  | (x, a) :: r, acc, hn => by
    have hx : x ∉ keys acc := fun z => (List.nodup_append.mp hn).2.2 _ z _ List.mem_cons_self rfl
    have := merge_go (f := f) r (acc ++ [(x, a)]) (by rw [keys, List.map_append, List.append_assoc]; exact hn)
    rw [List.append_assoc] at this
    rw [← put_new (f := f) hx] at this
    exact this
theorem merge_nd {α : Type} {f : α → D} {r : List (Str × α)} (hn : (keys r).Nodup) : mergeD [] (mapD f r) = mapD f r := merge_go (f := f) r [] hn
theorem pairsK_map {α : Type} {f : α → D} : ∀ r : List (Str × α), pairsK (r.map fun p => .tup [.str p.1, f p.2]) = some (mapD f r)
  | [] => rfl
  | (x, a) :: r => by
    rw [List.map_cons, pairsK, pairsK_map r]
    rfl
theorem dDict_map {α : Type} {f : α → D} {r : List (Str × α)} (hn : (keys r).Nodup) : dDict [.lst (r.map fun p => .tup [.str p.1, f p.2])] = some (.dic (mapD f r)) := by
  show (pairsK _).map _ = _
  rw [pairsK_map]
  show some (D.dic (mergeD [] (mapD f r))) = _
  rw [merge_nd hn]
end DL
namespace DL
open PySem PySem.Spec PyProof.Rows L2
variable [TabC]
end DL
namespace DL
open PySem PySem.Spec PyProof.Rows L2
variable [TabC]
end DL
namespace DL
open PySem PySem.Spec PyProof.Rows L2
variable [TabC]
theorem v_lrising {xs : List Str} (hl : xs.length ≤ 1000) : f__law_rising [txs xs] = .ok (txs (rise xs)) := v_rising hl
/-! all times -/
abbrev Tm := List (Str × Int)
/-! the minutes of moments -/
def st (rs : Row) (t : Tm) (x : Str) : Int := added rs x + ((chain (anc rs) x).map (get t)).sum
/-- the puts of one dish -/
def stepP (rs : Row) (P : List Str) (x : Str) : List Str := if ((get rs x).1 = "clock" ∨ (get rs x).1 ∈ P) ∧ x ∉ P then P ++ [x] else P
def turnP (rs : Row) (P : List Str) : List Str := (keys rs).foldl (stepP rs) P
/-- all dishes in the order in which their minutes are found -/
def found (rs : Row) : List Str := (keys rs).foldl (fun P _ => turnP rs P) []
end DL
namespace DL
open PySem PySem.Spec PyProof.Rows L2
variable [TabC]
/-! ### the order of names -/
def leS (y x : Str) : Prop := y.cps.toList ≤ x.cps.toList
theorem leS_iff {y x : Str} : strLe y x = true ↔ leS y x := by
  unfold strLe leS
  rw [Bool.not_eq_true', decide_eq_false_iff_not, List.not_lt]
theorem leS_anti {x y : Str} (h : leS x y) (h2 : leS y x) : x = y := by
  have e : x.cps.toList = y.cps.toList := List.le_antisymm h h2
  cases x with
  | mk a => cases y with
    | mk b =>
      congr 1
      exact Array.toList_inj.mp e
theorem leS_trans {x y z : Str} (h : leS x y) (h2 : leS y z) : leS x z := List.le_trans h h2
theorem leS_total (x y : Str) : leS x y ∨ leS y x := List.le_total _ _
/-- in a rising list the lesser ones stand ahead -/
theorem cut_rise {x : Str} : ∀ {l : List Str}, l.Pairwise leS → (∀ y ∈ l.take (l.filter fun y => strLe y x).length, leS y x) ∧ ∀ y ∈ l.drop (l.filter fun y => strLe y x).length, leS x y
  | [], _ => ⟨fun _ h => by simp at h, fun _ h => by simp at h⟩
  | a :: l, hp => by
    rw [List.pairwise_cons] at hp
    obtain ⟨h1, h2⟩ := cut_rise (x := x) hp.2
    by_cases ha : strLe a x = true
    · rw [List.filter_cons, if_pos ha, List.length_cons, List.take_succ_cons, List.drop_succ_cons]
      refine ⟨fun y hy => ?_, h2⟩
      rcases List.mem_cons.mp hy with e | hy
      · rw [e]; exact leS_iff.mp ha
      · exact h1 y hy
    · have hxa : leS x a := (leS_total x a).elim id fun z => (ha (leS_iff.mpr z)).elim
      have hn : l.filter (fun y => strLe y x) = [] := by
        rw [List.filter_eq_nil_iff]
        intro y hy z
        exact ha (leS_iff.mpr (leS_trans (hp.1 y hy) (leS_iff.mp z)))
      rw [List.filter_cons, if_neg ha, hn, List.length_nil, List.take_zero, List.drop_zero]
      refine ⟨(fun _ h => nomatch h), fun y hy => ?_⟩
      rcases List.mem_cons.mp hy with e | hy
      · rw [e]; exact hxa
      · exact leS_trans hxa (hp.1 y hy)
theorem ins_sorted {l : List Str} {x : Str} (h : l.Pairwise leS) : (insR l x).Pairwise leS := by
  obtain ⟨h1, h2⟩ := cut_rise (x := x) h
  unfold insR
  have hs := h
  rw [← List.take_append_drop (l.filter fun y => strLe y x).length l, List.pairwise_append] at hs
  rw [List.append_assoc, List.pairwise_append]
  refine ⟨hs.1, ?_, fun a ha b hb => ?_⟩
  · rw [List.singleton_append, List.pairwise_cons]
    exact ⟨h2, hs.2.1⟩
  · rcases List.mem_append.mp hb with hb | hb
    · rw [List.mem_singleton.mp hb]; exact h1 a ha
    · exact hs.2.2 a ha b hb
theorem rise_sorted (xs : List Str) : (rise xs).Pairwise leS := by
  have go : ∀ (xs acc : List Str), acc.Pairwise leS → (xs.foldl insR acc).Pairwise leS := by
    intro xs
    induction xs with
    | nil => exact fun acc h => h
    | cons x xs ih => exact fun acc h => ih _ (ins_sorted h)
  exact go xs [] List.Pairwise.nil
/-- like names, like rows -/
theorem rise_eq {xs ys : List Str} (h : xs.Perm ys) : rise xs = rise ys :=
  List.Perm.eq_of_pairwise (le := leS) (fun a b _ _ h1 h2 => leS_anti h1 h2) (rise_sorted xs) (rise_sorted ys) ((rise_perm xs).trans (h.trans (rise_perm ys).symm))
theorem rise_rise (xs : List Str) : rise (rise xs) = rise xs := rise_eq (rise_perm xs)
/-! ### meals with stations -/
end DL
namespace DL
open PySem PySem.Spec PyProof.Rows L2
variable [TabC]
/-! str(x) of a text, sorted of texts -/
end DL
namespace DL
open PySem PySem.Spec PyProof.Rows L2
variable [TabC]
/-! a list == [], whatever lies in it -/
end DL
namespace DL
open PySem PySem.Spec PyProof.Rows L2
variable [TabC]
/-! a list != [], whatever lies in it -/
end DL
namespace MD
open L2 PySem PySem.Spec PyProof.Rows SeqAt
/-! the rows of a dict, listed -/
section
variable {X : Cx}
end
end MD
namespace DL
open PySem PySem.Spec PyProof.Rows L2
variable [TabC]
section
variable {X : Cx} {E : XK} {O : List Nat} {e : Expr} {m : EM D} {apos cpos pos : Pos}
end
end DL
namespace MD
open L2 PySem PySem.Spec PyProof.Rows SeqAt
/-! list(d.values()) -/
section
variable {X : Cx}
end
end MD
namespace DL
open PySem PySem.Spec PyProof.Rows L2
variable [TabC]
section
variable {X : Cx} {E : XK} {O : List Nat} {e : Expr} {m : EM D} {apos cpos pos : Pos}
end
section
variable {X : Cx} {E : XK} {O : List Nat} {apos cpos pos : Pos}
end
end DL
namespace DL
open PySem PySem.Spec PyProof.Rows L2
variable [TabC]
/-! d[k], y = a, b (d owned) -/
section
variable {X : Cx} {E : XK} {O OL : List Nat} {a b ix : Expr} {ma mb mk : EM D} {pos : Pos} {i j : Nat} {x y : Str}
end
end DL
namespace DL
open PySem PySem.Spec PyProof.Rows L2
variable [TabC]
/-! list(range(n)) -/
section
variable {X : Cx} {E : XK} {O OL : List Nat} {a : Expr} {m : EM D} {pos : Pos}
end
end DL
namespace DL
open PySem PySem.Spec PyProof.Rows L2
variable [TabC]
/-! ### a comprehension with two fors; the inner one over a list, a tuple or a text -/
section
variable {X : Cx} {E : XK} {O OB hid : List Nat} {tg e iter tg1 iter1 : Expr} {ifs ifs1 : List Expr} {m me m1 : EM D} {mi : EM (List D)} {mt mt1 : EM Bool} {g g1 : DG} {scope : Scope} {pos : Pos}
end
section
variable {X : Cx} {E : XK} {O OB hid hs : List Nat} {tg e iter tg1 iter1 : Expr} {ifs ifs1 : List Expr} {me m1 : EM D} {mi : EM (List D)} {mt mt1 : EM Bool} {g g1 : DG} {scope : Scope} {pos : Pos}
end
end DL
namespace DL
open PySem PySem.Spec PyProof.Rows L2
variable [TabC]
end DL
namespace DL
open PySem PySem.Spec PyProof.Rows L2
variable [TabC]
end DL
namespace DL
open PySem PySem.Spec PyProof.Rows L2
variable [TabC]
/-! ### hangings, waits -/
end DL
namespace TR
open PySem PySem.Spec PyProof.Rows L2
variable {X : Cx}
theorem tried_givesT {K : PySem.W.Frag} (hK : X.K = K) {Ng : List Str} {x a fd q w : Str} {sg : Scope} {g : Addr} {cdg : Value} {l : List HE} {h₀ : ExceptHandler} {hds : List ExceptHandler} {j0 k1 k2 : Nat} {p1 p2 p3 p4 p5 p6 q1 q2 q3 q4 q5 q6 : Pos}
    (nd : Ng.Nodup) (h1 : Ng[1]? = some fd) (hlf : sg.names.lookup fd = some .local) (hlen : 2 ≤ Ng.length) (hl : ∀ e ∈ l, heOk Ng.length 1 e)
    (hh : ∀ s H, MixOk (ZX X Ng x sg g cdg s H) (h₀ :: hds) (l.map (hdOf X.K 1))) (hd : (fd == ("__debug__" : Str)) = false := by decide) (hcd : (fd == ("__classdict__" : Str)) = false := by decide)
    (hsw1 : ∀ s H, swapsWith (.Constant .none j0 q2) (some (.Name fd q1)) q3.line (ZX X Ng x sg g cdg s H).env = pure false := by intros; rfl)
    (hsw2 : ∀ s H, swapsWith (.Call (.Name a p1) [] [] p2) none p3.line (ZX X Ng x sg g cdg s H).env = pure false := by intros; rfl)
    (hsw3 : ∀ w s H, swapsWith (.Tuple [.Constant (.str w) k1 p5, .Call (.Name a p1) [] [] p2] k2 p6) (some (.Name fd p4)) p3.line (ZX X Ng x sg g cdg s H).env = pure false := by intros; rfl) :
    LamX.GivesTo X Ng x sg g cdg [.Assign [.Name fd q1] (.Constant .none j0 q2) q3, .Try [.Assign [.Name fd p4] (.Tuple [.Constant (.str w) k1 p5, .Call (.Name a p1) [] [] p2] k2 p6) p3] (h₀ :: hds) [] [] q4, .Return (some (.Name fd q5)) q6] a q (TTried K Ng (.told w) l) := by
  subst hK
  exact tried_gives (ok := .told w) (q7 := q6) nd h1 hlf hlen hl hd hcd hsw1 hsw2 hsw3 hh
end TR
namespace DL
open PySem PySem.Spec PyProof.Rows L2
variable [TabC]
/-! three targets, the last one takes a new thing -/
section
variable {X : Cx} {E : XK} {O OL : List Nat} {a b c : Expr} {ma mb mc : EM D} {pos : Pos} {i j l : Nat} {x y z : Str}
end
end DL
namespace DL
open PySem PySem.Spec PyProof.Rows L2
variable [TabC]
/-! two targets: the first one new, or one of them read by a block; l.index(x) -/
section
variable {X : Cx} {E : XK} {O OL : List Nat} {a b c e o : Expr} {ma mb mc m mo mx : EM D} {pos : Pos} {i j : Nat} {x y : Str}
/-! l.index(x) -/
end
/-! name = [.. for .. in a dict] -/
section
variable {X : Cx} {E : XK} {O OL hs ws : List Nat} {e tg iter : Expr} {ifs : List Expr} {me : EM D} {mt : EM Bool} {g : DG} {scope : Scope} {pos : Pos} {own : List (Str × Nat)} {i : Nat} {y : Str}
end
/-! a truth by cases -/
section
variable {X : Cx} {E : XK} {O : List Nat} {a b c : Expr} {mc ma mb : EM Bool} {pos : Pos}
end
section
variable {a b : FM D}
end
end DL
namespace DL
open PySem PySem.Spec PyProof.Rows L2
variable [TabC]
/-! three targets, the first one takes a new thing, the last one too or not -/
section
variable {X : Cx} {E : XK} {O OL : List Nat} {a b c : Expr} {ma mb mc : EM D} {pos : Pos} {i j l : Nat} {x y z : Str}
end
end DL
namespace DL
open PySem PySem.Spec PyProof.Rows L2
variable [TabC]
/-! ### xs[::-1] -/
section
variable {K : PySem.W.Frag} {aS : Addr} {H : Hp} {A : AS}
theorem RepL.snoc : ∀ {ds : List D} {vs : List V} {d : D} {v : V}, RepL K aS H A ds vs → Rep K aS H A d v → RepL K aS H A (ds ++ [d]) (vs ++ [v])
  | [], vs, d, v, h, r => by
    rw [RepL] at h
    subst h
    exact RepL.cons r RepL.nil
  | e :: ds, vs, d, v, h, r => by
    rw [RepL] at h
    obtain ⟨u, ur, e1, r1, q⟩ := h
    subst e1
    exact RepL.cons r1 (RepL.snoc q r)
theorem RepL.rev : ∀ {ds : List D} {vs : List V}, RepL K aS H A ds vs → RepL K aS H A ds.reverse vs.reverse
  | [], vs, h => by
    rw [RepL] at h
    subst h
    exact RepL.nil
  | e :: ds, vs, h => by
    rw [RepL] at h
    obtain ⟨u, ur, e1, r1, q⟩ := h
    subst e1
    rw [List.reverse_cons, List.reverse_cons]
    exact RepL.snoc (RepL.rev q) r1
end
def eRev (m : EM D) : EM D := fun xq s n Q => m xq s n fun d n1 => ∃ xs, d = .lst xs ∧ Q (.lst xs.reverse) n1
section
variable {X : Cx} {E : XK} {O : List Nat} {e : Expr} {m : EM D}
theorem vf_rev {k : Nat} {p1 p2 p3 pos : Pos} (h : VE X E O e m) : VF X E O (.Subscript e (.Slice none none (some (.UnaryOp .USub (.Constant (.int 1) k p1) p2)) p3) pos) (eRev m) := by
  obtain ⟨mn, t, pe, f⟩ := h
  refine ⟨fun xq s n Q Q' hq h => mn _ _ _ _ _ (fun _ _ ⟨xs, z, q⟩ => ⟨xs, z, hq _ _ q⟩) h, _, pe_revL pe, fun aS A0 H0 σ H s n xq Q S L hm => ?_⟩
  refine f aS A0 H0 σ H s n xq _ S L (mn _ _ _ _ _ (fun d n1 q v H1 k1 st1 r1 => ?_) hm)
  obtain ⟨xs, ed, q⟩ := q
  subst ed
  rw [Rep] at r1
  obtain ⟨a, vs, ev, na, hq, rl⟩ := r1
  refine ⟨a, vs, ev, SqL.of hq, fun p hp => q p _ ?_ (k1.trans (KpS.upd hp)) (st1.upd hp) (own_new hp rl.rev)⟩
  cases z : H p with
  | none => rfl
  | some u =>
    by_cases hz : p = aS
    · obtain ⟨xs, y⟩ := st1.lst
      rw [hz, y] at hp
      cases hp
    · exact (KpS.gone k1 hp z hz).elim
def fRev (a : FM D) : FM D := fun s => (a s).bind fun d => match d with
  | .lst xs => .ok (.lst xs.reverse)
  | _ => .bad
theorem le_rev {a : FM D} : ∀ xq s n Q, up (fRev a) xq s n Q → eRev (up a) xq s n Q := fun xq s n Q h => by
  unfold eRev up
  exact wp_mono (fun d h => by
    cases d with
    | lst xs => exact ⟨xs, rfl, h⟩
    | _ => exact h.elim) (wp_bind h)
end
end DL
namespace DL.K06
open PySem PySem.Spec PyProof.Rows L2
variable [TabC]
abbrev N_Hanging___init__ : List Str := ["self", "rows", "name", "anchor"]
def b_Hanging___init___1 : FS := (fIfS (fOrT (fNotT (fVal (fCall 1 f_is_name [] (fCons (fVar 2) fNil)))) (fNotT (fVal (fCall 2 f_is_anchor [] (fCons (fVar 3) (fCons (fVar 1) fNil)))))) (fRaise "BadRow" ["name"] (fCons (fVar 2) fNil)) fNilS)
def B_Hanging___init__ : FS :=
  (fSeq (fForD (fun s => (s[1]?).join) itemsD (fgTp (fgsCons (fgNm 2) (fgsCons (fgNm 3) fgsNil))) (b_Hanging___init___1)) (fSeq (fDrop (fCall 1 f_check_rounds [] (fCons (fVar 1) fNil))) (fFldQ "Hanging" "anchors" (fDc (fIter (fCall 1 f_rising [] (fCons (fBlt dList (fCons (fVar 1) fNil)) fNil))) [2] (fgNm 2) fYes (fVar 2) (fBin dIdx (fVar 1) (fVar 2))))))
def f_Hanging___init__ : FFn := runI "Hanging" N_Hanging___init__ B_Hanging___init__
abbrev N_Hanging_rows : List Str := ["self"]
def B_Hanging_rows : FS :=
  (fRet (fBlt dDict (fCons (fFld "Hanging" "anchors" (fVar 0)) fNil)))
def f_Hanging_rows : FFn := runF N_Hanging_rows B_Hanging_rows
abbrev N_Hanging_dishes : List Str := ["self"]
def B_Hanging_dishes : FS :=
  (fRet (fBlt dList (fCons (fFld "Hanging" "anchors" (fVar 0)) fNil)))
def f_Hanging_dishes : FFn := runF N_Hanging_dishes B_Hanging_dishes
abbrev N_Hanging_looks : List Str := ["self", "name"]
def B_Hanging_looks : FS :=
  (fRet (fLcD (fun s => ((fun s => (s[0]?).join) s).bind (fldD "Hanging" "anchors")) keysD [1] (fgNm 1) (fVal (fBin (dValInD false) (fVar 1) (fFld "Hanging" "anchors" (fVar 0)))) (fVar 1)))
def f_Hanging_looks : FFn := runF N_Hanging_looks B_Hanging_looks
abbrev N_Hanging___iter__ : List Str := ["self"]
abbrev N_Hanging_way : List Str := ["self", "name"]
def B_Hanging_way : FS :=
  (fSeqF (fDrop (fCall 2 f_check_dish [] (fCons (fVar 1) (fCons (fFld "Hanging" "anchors" (fVar 0)) fNil)))) (fRet (fRev (fCall 2 f_way_up [] (fCons (fFld "Hanging" "anchors" (fVar 0)) (fCons (fVar 1) fNil))))))
def f_Hanging_way : FFn := runF N_Hanging_way B_Hanging_way
abbrev N__law_way : List Str := ["_law_rows", "_law_name", "_law_found", "_law_here"]
def b__law_way_1 : FS := (fPar 2 3 (fBin dAdd (fLst (fCons (fVar 3) fNil)) (fVar 2)) (fBin dIdx (fVar 0) (fVar 3)))
def B__law_way : FS :=
  (fSeq (fPar 2 3 (fLst fNil) (fBin dIdx (fVar 0) (fVar 1))) (fSeq (fWhile (fBinT dNe (fVar 3) (fC (.str "clock"))) (b__law_way_1)) (fRet (fVar 2))))
def f__law_way : FFn := runB N__law_way B__law_way
abbrev N_Hanging___eq__ : List Str := ["self", "other"]
def B_Hanging___eq__ : FS :=
  (fRet (fAnd (fIsU "Hanging" (fVar 1)) (fBin dEqX (fFld "Hanging" "anchors" (fVar 0)) (fFld "Hanging" "anchors" (fVar 1)))))
def f_Hanging___eq__ : FFn := runB N_Hanging___eq__ B_Hanging___eq__
abbrev N_law : List Str := ["_law_script", "_law_state", "_law_turn", "_law_names_here", "_law_rows", "_law_given", "_law_due", "_law_looks", "_law_again", "_law_name", "_law_odd", "_law_others", "_law_other", "_law_hanging", "_law_up", "_law_told", "_law_way_here"]
def b_law_1 : FS := (fSeq (fIfS (fNotT (fVal (fCall 2 f__law_same_dict [] (fCons (fMeth "Hanging" "rows" 1 f_Hanging_rows [] (fVar 13) fNil) (fCons (fVar 6) fNil))))) (fRet (fC (.bl false))) fNilS) (fSeq (fIfS (fNotT (fVal (fCall 2 f__law_same [] (fCons (fLst (fCons (fMeth "Hanging" "dishes" 1 f_Hanging_dishes [] (fVar 13) fNil) (fCons (fMeth "Hanging" "looks" 1 f_Hanging_looks [] (fVar 13) fNil) fNil))) (fCons (fLst (fCons (fVar 14) (fCons (fVar 7) fNil))) fNil))))) (fRet (fC (.bl false))) fNilS) (fSeq (fIfS (fOrT (fBinT dNeX (fLcD (itP "Hanging" "anchors" (fun s => (s[13]?).join)) keysD [9] (fgNm 9) fYes (fVar 9)) (fVar 14)) (fBinT dNeX (fLIt (itP "Hanging" "anchors" (fun s => (s[13]?).join))) (fVar 14))) (fRet (fC (.bl false))) fNilS) (fTold3 15 "late" "late" (fMeth "Hanging" "rows" 1 f_Hanging_rows [] (fVar 13) fNil) (fMeth "Hanging" "dishes" 1 f_Hanging_dishes [] (fVar 13) fNil) (fMeth "Hanging" "looks" 1 f_Hanging_looks [] (fVar 13) fNil) fNilS))))
def b_law_2 : FS := (fSeq (fSetF 16 (fMeth "Hanging" "way" 2 f_Hanging_way [] (fVar 13) (fCons (fVar 9) fNil))) (fSeq (fIfS (fNotT (fVal (fCallB [16, 5] 2 f__law_same (fCons (fVar 16) (fCons (fCall 2 f__law_way [] (fCons (fVar 4) (fCons (fVar 9) fNil))) fNil))))) (fRet (fC (.bl false))) fNilS) (fApp 16 (fC (.str "late")))))
def b_law_3 : FS := (fFor (fRange1 (fC (.int 2))) (fgNm 8) (b_law_2))
def b_law_4 : FS := (fIfS (fNotT (fVal (fCall 2 f__law_same [] (fCons (fTried (.told "told") [("NoDish", some 2, .fld "none" "name")] [5] (fMeth "Hanging" "way" 2 f_Hanging_way [] (fVar 13) (fCons (fVar 10) fNil))) (fCons (fTup (fCons (fC (.str "none")) (fCons (fVar 10) fNil))) fNil))))) (fRet (fC (.bl false))) fNilS)
def b_law_5 : FS := (fIfS (fOrT (fVal (fEqU "Hanging" f_Hanging___eq__ (fVar 13) (fVar 12))) (fOrT (fVal (fEqR "Hanging" f_Hanging___eq__ (fVar 12) (fVar 13))) (fNotT (fVal (fNeU "Hanging" f_Hanging___eq__ (fVar 13) (fVar 12)))))) (fRet (fC (.bl false))) fNilS)
def B_law : SM :=
  (sSeq (sFor (up (fRange1 (fC (.int 5)))) (upG (fgNm 2)) (sSeq (sSet 3 (eCall 2 sp__law_names [] (eCons (up (fVar 1)) (eCons (eCall 2 sp__law_take [] (up (fCons (fVar 1) (fCons (fC (.int 6)) fNil)))) (up fNil))))) (sSeq (sSet 4 (eCall 2 sp__law_hung [] (up (fCons (fVar 1) (fCons (fVar 3) fNil))))) (sSeq (upS (fSetF 5 (fBlt dDict (fCons (fVar 4) fNil)))) (sSeq (upS (fAsg (fTup (fCons (fMakeQ "Hanging" 2 f_Hanging___init__  (fCons (fVar 5) fNil)) (fCons (fCall 1 f__law_rising [] (fCons (fVar 3) fNil)) fNil))) (fgTp (fgsCons (fgNm 13) (fgsCons (fgNm 14) fgsNil))))) (sSeq (upS (fDput 5 (fC (.str "late")) (fC (.str "clock")))) (sSeq (upS (fSet 6 (fBlt dDict (fCons (fLc (fIter (fVar 14)) [9] (fgNm 9) fYes (fTup (fCons (fVar 9) (fCons (fBin dIdx (fVar 4) (fVar 9)) fNil)))) fNil)))) (sSeq (upS (fSetF 7 (fLc (fIter (fVar 14)) [9] (fgNm 9) (fVal (fBin (dValInD false) (fVar 9) (fVar 4))) (fVar 9)))) (sSeq (upS (fFor (fRange1 (fC (.int 2))) (fgNm 8) (b_law_1))) (sSeq (upS (fFor (fIter (fVar 3)) (fgNm 9) (b_law_3))) (sSeq (upS (fFor (fIter (fLst (fCons (fC (.str "late")) (fCons (fC (.str "clock")) (fCons (fC (.str "")) (fCons (fC .non) (fCons (fC (.int 5)) (fCons (fLst fNil) (fCons (fTup (fCons (fC (.str "rice")) fNil)) (fCons (fC (.dic [])) (fCons (fC (.bl true)) fNil))))))))))) (fgNm 10) (b_law_4))) (sSeq (sSet 11 (eLst (eCons (up (fC .non)) (eCons (up (fVar 6)) (eCons (up (fMakeQ "Hanging" 2 f_Hanging___init__  (fCons (fCall 3 f__law_with [] (fCons (fVar 4) (fCons (fC (.str "qq")) (fCons (fC (.str "clock")) fNil)))) fNil))) (eCons (eMakeQ "Hanging" 2 (FSp.of f_Hanging___init__)  (eCons (eCall 2 sp__law_hung [] (up (fCons (fVar 1) (fCons (fVar 3) fNil)))) (up fNil))) (up fNil))))))) (upS (fSeq (fFor (fIter (fSl (fVar 11) fNone (fSome (fC (.int 3))))) (fgNm 12) (b_law_5)) (fIfS (fOrT (fBinT dNeX (fOwB "Hanging" f_Hanging___eq__ (fVar 13) (fBin dIdx (fVar 11) (fC (.int 3)))) (fBin dEqX (fMeth "Hanging" "rows" 1 f_Hanging_rows [] (fBin dIdx (fVar 11) (fC (.int 3))) fNil) (fVar 6))) (fVal (fOwNe "Hanging" f_Hanging___eq__ (fVar 13) (fMakeQ "Hanging" 2 f_Hanging___init__  (fCons (fVar 6) fNil))))) (fRet (fC (.bl false))) fNilS))))))))))))))) (upS (fRet (fC (.bl true)))))
end DL.K06
namespace DL
open PySem PySem.Spec PyProof.Rows L2
variable [TabC]
theorem lv {X : Cx} {E : XK} {O : List Nat} {x : Str} {pos : Pos} (i : Nat) (hi : i ∉ O := by decide) (hN : X.N[i]? = some x := by rfl) (hv : Vis X.env.scope x := by first | exact .inl rfl | exact .inr (.inl rfl) | exact .inr (.inr rfl))
    (hd : (x == ("__debug__" : Str)) = false := by decide) (hcd : (x == ("__classdict__" : Str)) = false := by decide) : VE X E O (.Name x pos) (up (fVar i)) := lo (ve_var hi hN hv hd hcd) (le_var _)
theorem cxq {P : Program} {w : World} {K : PySem.W.Frag} {mg : Str → Option Value} {base : Heap} (N : List Str) (qual : Str) (scope : Scope) (f : Addr) (cdv : Value) (A : Around) (outer : List Env) (s : Shared) (H : Hp) (E : XK) :
    TK (CxD P w K mg base N qual scope f cdv A outer s H E) (EU H E) ∧ PassesOwn (model P w) (CxD P w K mg base N qual scope f cdv A outer s H E).A (CxD P w K mg base N qual scope f cdv A outer s H E).env (CxD P w K mg base N qual scope f cdv A outer s H E).xe ∧ UC (CxD P w K mg base N qual scope f cdv A outer s H E) (EU H E) := ⟨cx_tk, cx_po, cx_uc⟩
end DL
namespace DL
open PySem PySem.Spec PyProof.Rows L2
variable [TabC]
section
variable {X : Cx} {E : XK} {O O' O'' OL : List Nat} {e a b o : Expr} {es : List Expr} {pos : Pos} {x : Str} {R : RK} {fa fb : FM D} {fl : FM (List D)}
theorem aN : VA R X E O [] (up fNil) := loA va_nil le_nil
theorem aC (h : VX Rep X E O e (up fa)) (hl : VA Rep X E O es (up fl)) (hs : starEach (e :: es) X.env = (false, eval e X.env) :: starEach es X.env := by rfl) : VA Rep X E O (e :: es) (up (fCons fa fl)) := loA (va_cons stbE h hl hs) le_cons
theorem aB (h : VX RepB X E O e (up fa)) (hl : VA RepB X E O es (up fl)) (hs : starEach (e :: es) X.env = (false, eval e X.env) :: starEach es X.env := by rfl) : VA RepB X E O (e :: es) (up (fCons fa fl)) := loA (va_cons stbB h hl hs) le_cons
theorem eI {i j pos} : VE X E O (.Constant (.int i) j pos) (up (fC (.int i))) := lo ve_int le_c
theorem eS {x j pos} : VE X E O (.Constant (.str x) j pos) (up (fC (.str x))) := lo ve_str le_c
theorem eX {k : Nat} (hr : Room k X.A) (ha : VE X E O a (up fa)) (hb : VE X E O b (up fb)) (hp : PlainIx b := by exact fun _ _ => rfl) : VE X E O (.Subscript a b pos) (up (fBin dIdx fa fb)) := lo (ve_sub (Room.u hr) ha.b hb.b hp) le_bin
theorem eG {p : Pos} {ps : List Str} {k k' : Nat} {f : FFn} (tk : TK X E) {len : Nat} (G : GFn X.prog X.w X.K X.mg X.base x k ps (lift X.K len (FSp.of f))) (hr : Room k' X.A) (ha : VA Rep X E O (e :: es) (up fl)) (hl : ps.length = len := by rfl) (hk : k ≤ k' := by decide) (hg : Gl X x := by rfl) (hdb : (x == ("__debug__" : Str)) = false := by decide)
    (h1 : starEach (e :: es) X.env = (false, eval e X.env) :: starEach es X.env := by rfl) (h2 : (backTo pos (starEach es X.env)).any (·.1) = false := by rfl) : VE X E O (.Call (.Name x p) (e :: es) [] pos) (up (fCall len f [] fl)) := lo (ve_g tk hl G hr hk hg ha hdb h1 h2) le_call
theorem sR (h : VE X E O e (up fa)) : VS X E O O' OL (.Return (some e) pos) (upS (fRet fa)) := loS (vs_ret h) ls_ret
theorem tC {op : CmpOp} {f : D → D → Option D} (h : OpD X (compareOp op) f) (ha : VE X E O a (up fa)) (hb : VE X E O b (up fb)) (hm : behindInMarks op b = false := by first | rfl | exact nomark _) : VT X E O (.Compare a [op] [b] pos) (up (fBinT f fa fb)) := loT (vt_cmp h ha.b hb.b hm) le_binT
theorem sC {st : Stmt} {rest : List Stmt} {f g : FS} (h : VS X E O O' OL st (upS f)) (k : VSs X E O' O'' OL rest (upS g)) : VSs X E O O'' OL (st :: rest) (upS (fSeq f g)) := loSs (vss_cons h k) ls_seq
theorem sS {p' : Pos} (i : Nat) (nd : X.N.Nodup) (h : VE X E O e (up fa)) (hi : i ∉ O := by decide) (hN : X.N[i]? = some x := by rfl) (hx : Loc X.env.scope x := by first | exact .inl rfl | exact .inr rfl) (hs : swapsWith e (some (.Name x p')) pos.line X.env = pure false := by rfl)
    (hf : X.fn x = true ∨ X.env.scope.names.lookup x = some .local := by first | exact .inl rfl | exact .inr rfl | assumption) : VS X E O O OL (.Assign [.Name x p'] e pos) (upS (fSet i fa)) := loS (vs_set hi nd hN hx h hs hf) ls_set
theorem gN (i : Nat) (nd : X.N.Nodup) (hi : i ∉ O := by decide) (hN : X.N[i]? = some x := by rfl) (hx : Loc X.env.scope x := by first | exact .inl rfl | exact .inr rfl) (hf : X.fn x = true ∨ X.env.scope.names.lookup x = some .local := by first | exact .inl rfl | exact .inr rfl | assumption) : VG X O [i] (.Name x pos) (gNm i) := vg_name hi nd hN hx hf
theorem pV (i : Nat) (hi : i ∉ O := by decide) (hN : X.N[i]? = some x := by rfl) (hv : Vis X.env.scope x := by first | exact .inl rfl | exact .inr (.inl rfl) | exact .inr (.inr rfl)) (hd : (x == ("__debug__" : Str)) = false := by decide) (hcd : (x == ("__classdict__" : Str)) = false := by decide) : VP X O (.Name x pos) fun s => (s[i]?).join := vp_var hi hN hv hd hcd
theorem eF {C g : Str} (cl : Cls X.K (He.ga X.K C)) (na : NoAttr X.K (He.ga X.K C) g) (h : VE X E O o (up fa)) (hb : attributeBase o g X.env (eval o X.env) = eval o X.env := by rfl) : VE X E O (.Attribute o g pos) (up (fFld C g fa)) := lo (ve_fld cl na h.b hb) le_fld
theorem fsQ {N P : List Str} {sc : Scope} (h1 : sc.kind = .function := by rfl) (h2 : sc.isCoroutine = false := by rfl) (h3 : sc.isGenerator = false := by rfl) (h4 : N.Nodup := by decide +kernel) (h5 : N.take P.length = P := by rfl)
    (h6 : ∀ x ∈ P, sc.names.lookup x = some .local ∨ sc.names.lookup x = some .cell := by decide +kernel) (h7 : ∀ y ∈ sc.names, y.2 ≠ .free := by decide +kernel) : FnScope N P sc := ⟨h1, h2, h3, h4, h5, h6, h7⟩
end
end DL
namespace DL.K06
open PySem PySem.Spec PyProof.Rows L2 HX
variable [TabC]
variable {P : Program} {w : World} {K : PySem.W.Frag} {mg : Str → Option Value} {base : Heap}
abbrev k__law_take : Nat := 1
abbrev k__law_mix : Nat := 2
theorem sc__law_mix : FnScope N__law_mix ["_law_state", "_law_things"] (defScope (top 24)) := fsQ
theorem d__law_mix (G__law_take : GFn P w K mg base "_law_take" k__law_take ["_law_state", "_law_many"] (lift K 2 sp__law_take)) (f_len : mg "len" = none) (f_list : mg "list" = none) : Body P w K mg base N__law_mix "_law_mix" (defScope (top 24)) 1 [] [3, 2] (defBody (top 24)) (B__law_mix) := by
  have nd := sc__law_mix.nd
  intro f cdv A outer s H E hr
  have ⟨tk, po, _⟩ := cxq (P := P) (w := w) (K := K) (mg := mg) (base := base) N__law_mix "_law_mix" (defScope (top 24)) f cdv A outer s H E
  exact vss_cons (loS (vs_parFF (i := 2) (j := 3) (by decide) (by decide) (by decide) (by decide) rfl nd rfl rfl (by decide) rfl rfl (loF (vf_callTy (cf_list rfl) rfl f_list boot_list (aB (VE.b (lv 1)) aN)) le_blt) (loF (vf_lst aN) le_lst) rfl) ls_parFF) (vss_cons (vs_while po (loT (vt_cmp (od_ne (Room.u64 hr)) (lo (vb_var (i := 2) (by decide) rfl (by first | exact .inl rfl | exact .inr (.inl rfl) | exact .inr (.inr rfl))) (le_var _)) (VE.b (VF.ve (loF (vf_lst aN) le_lst))) (nomark _)) le_binT) (vss_one (vs_appPop (i := 2) (j := 3) (by decide) (by decide) (by decide) rfl (by first | exact .inl rfl | exact .inr (.inl rfl) | exact .inr (.inr rfl)) rfl (by first | exact .inl rfl | exact .inr (.inl rfl) | exact .inr (.inr rfl)) (ve_g tk rfl G__law_take hr (by decide) rfl (aC (lv 0) (aC (lo (ve_callB cd_len rfl f_len boot_len (aB (lo (vb_var (i := 2) (by decide) rfl (by first | exact .inl rfl | exact .inr (.inl rfl) | exact .inr (.inr rfl))) (le_var _)) aN)) le_blt) aN)))))) (vss_one (loS (vs_retO (i := 3) (by decide) rfl (by first | exact .inl rfl | exact .inr (.inl rfl) | exact .inr (.inr rfl))) ls_retV)))
abbrev k__law_names : Nat := 3
theorem sc__law_names : FnScope N__law_names ["_law_state", "_law_many"] (defScope (top 27)) := fsQ
theorem d__law_names (G__law_mix : GFn P w K mg base "_law_mix" k__law_mix ["_law_state", "_law_things"] (lift K 2 sp__law_mix)) : Body P w K mg base N__law_names "_law_names" (defScope (top 27)) 2 [] [] (defBody (top 27)) (B__law_names) := by
  have nd := sc__law_names.nd
  intro f cdv A outer s H E hr
  have ⟨tk, _, _⟩ := cxq (P := P) (w := w) (K := K) (mg := mg) (base := base) N__law_names "_law_names" (defScope (top 27)) f cdv A outer s H E
  exact vss_cons (sS 2 nd (VF.ve (loF (vf_lst (aC eS (aC eS (aC eS (aC eS (aC eS (aC eS (aC eS (aC eS aN))))))))) le_lst))) (vss_one (vs_ret (ve_slice (VE.b (ve_g tk rfl G__law_mix hr (by decide) rfl (aC (lv 0) (aC (lo (ve_bin od_add (VE.b (lv 2)) (VE.b (VF.ve (loF (vf_lst (aC eS (aC eS (aC eS (aC eS (aC eS (aC eS (aC eS (aC eS aN))))))))) le_lst)))) le_bin) aN)))) (loO vo_none le_none) (loO (vo_some (VE.b (lv 1))) le_some))))
abbrev k__law_one : Nat := 2
theorem sc__law_one : FnScope N__law_one ["_law_state", "_law_things"] (defScope (top 23)) := fsQ
theorem d__law_one (G__law_take : GFn P w K mg base "_law_take" k__law_take ["_law_state", "_law_many"] (lift K 2 sp__law_take)) (f_len : mg "len" = none) : Body P w K mg base N__law_one "_law_one" (defScope (top 23)) 1 [] [] (defBody (top 23)) (B__law_one) := by
  have nd := sc__law_one.nd
  intro f cdv A outer s H E hr
  have ⟨tk, _, _⟩ := cxq (P := P) (w := w) (K := K) (mg := mg) (base := base) N__law_one "_law_one" (defScope (top 23)) f cdv A outer s H E
  exact vss_one (vs_ret (ve_sub (Room.u hr) (VE.b (lv 1)) (VE.b (ve_g tk rfl G__law_take hr (by decide) rfl (aC (lv 0) (aC (lo (ve_callB cd_len rfl f_len boot_len (aB (VE.b (lv 1)) aN)) le_blt) aN)))) (fun _ _ => rfl)))
abbrev k__law_hung : Nat := 3
theorem sc__law_hung : FnScope N__law_hung ["_law_state", "_law_names_here"] (defScope (top 29)) := fsQ
theorem d__law_hung (G__law_mix : GFn P w K mg base "_law_mix" k__law_mix ["_law_state", "_law_things"] (lift K 2 sp__law_mix)) (G__law_one : GFn P w K mg base "_law_one" k__law_one ["_law_state", "_law_things"] (lift K 2 sp__law_one)) (f_enumerate : mg "enumerate" = none) : Body P w K mg base N__law_hung "_law_hung" (defScope (top 29)) 2 [] [3] (defBody (top 29)) (B__law_hung) := by
  have nd := sc__law_hung.nd
  intro f cdv A outer s H E hr
  have ⟨tk, po, _⟩ := cxq (P := P) (w := w) (K := K) (mg := mg) (base := base) N__law_hung "_law_hung" (defScope (top 29)) f cdv A outer s H E
  exact vss_cons (vs_parEF (i := 2) (j := 3) (by decide) (by decide) (by decide) rfl nd rfl rfl (by decide) rfl rfl (ve_g tk rfl G__law_mix hr (by decide) rfl (aC (lv 0) (aC (lv 1) aN))) (loF vf_dic0 le_c) rfl) (vss_cons (vs_for po rfl (loIs (vi_enum rfl f_enumerate (lv 2)) le_enum) (loG (vg_tup rfl (vgs_cons (gN 4 nd) (vgs_cons (gN 5 nd) (vgs_nil))) (fun _ _ _ h => ((gsok_cons gok_nm (gsok_cons gok_nm (gsok_nil))) _ _ _ h).1)) (lg_tp (lgs_cons (lg_nm) (lgs_cons (lg_nm) (lgs_nil))))) (vss_one (vs_dput (i := 3) (Room.u hr) (by decide) rfl (by first | exact .inl rfl | exact .inr (.inl rfl) | exact .inr (.inr rfl)) (lv 5) (ve_g tk rfl G__law_one hr (by decide) rfl (aC (lv 0) (aC (lo (ve_bin od_add (VE.b (VF.ve (loF (vf_lst (aC eS aN)) le_lst))) (VE.b (lo (ve_slice (VE.b (lv 2)) (loO vo_none le_none) (loO (vo_some (VE.b (lv 4))) le_some)) le_sl))) le_bin) aN)))))) (vss_one (loS (vs_retO (i := 3) (by decide) rfl (by first | exact .inl rfl | exact .inr (.inl rfl) | exact .inr (.inr rfl))) ls_retV)))
abbrev k_is_name : Nat := 1
theorem sc_is_name : FnScope N_is_name ["thing"] (defScope (top 9)) := fsQ
theorem d_is_name (c_CLOCK : ∃ t, mg "CLOCK" = some (.str "clock" t)) (c_LETTERS : ∃ t, mg "LETTERS" = some (.str "abcdefghijklmnopqrstuvwxyz" t)) (c_MOST_LETTERS : ∃ t, mg "MOST_LETTERS" = some (.int 8 t)) (f_all : mg "all" = none) (f_isinstance : mg "isinstance" = none) (f_len : mg "len" = none) (f_str : mg "str" = none) : Body P w K mg base N_is_name "is_name" (defScope (top 9)) 0 [] [] (defBody (top 9)) (upS (B_is_name)) := by
  have nd := sc_is_name.nd
  intro f cdv A outer s H E hr
  exact sC (loS (vs_if (VW.t (loW (vw_or (loT (vt_not (loT (vt_val (lo (ve_callB cd_isi rfl f_isinstance boot_isinstance (aB (VE.b (lv 0)) (aB (VE.b (lo (ve_bty (T := "str") rfl f_str boot_str) le_c)) aN))) le_blt)) le_val)) le_notT) (loW (vw_or (tC (od_eq (Room.u64 hr)) (lv 0) (lo (ve_gstr rfl c_CLOCK) le_c)) (vw_or1 (loT (vt_not (loT (vt_chain (od_le (Room.u64 hr)) (od_le (Room.u64 hr)) (VE.b eI) (VE.b (lo (ve_callB cd_len rfl f_len boot_len (aB (VE.b (lv 0)) aN)) le_blt)) (VE.b (lo (ve_gint rfl c_MOST_LETTERS) le_c))) le_chainT)) le_notT))) le_orT)) le_orT)) (vss_one (sR (lo (ve_bl) le_c))) (loSs vss_nil ls_nil)) ls_if) (vss_one (sR (lo (ve_callB (cd_all rfl) rfl f_all boot_all (aB (VE.b (VF.ve (loF (xf_lc rfl rfl nd (VIs.vi (loIs (vi_seq (lv 0)) le_iter)) (blkOk_by (own := [("sign", 1)]) (N := N_is_name) (sc := defScope (top 9)) (by decide +kernel)) (by decide) (by decide) (fun c => loG (gN 1 nd) (lg_nm)) (fun c => loTs vts_nil le_yes) (fun c => lo (ve_cmp (od_in (Room.u65 hr)) (VE.b (lv 1)) (VE.b (lo (ve_gstr rfl c_LETTERS) le_c)) rfl) le_bin)) le_lc))) aN)) le_blt)))
abbrev k_is_anchor : Nat := 1
theorem sc_is_anchor : FnScope N_is_anchor ["thing", "names"] (defScope (top 15)) := fsQ
theorem d_is_anchor (c_CLOCK : ∃ t, mg "CLOCK" = some (.str "clock" t)) (f_list : mg "list" = none) : Body P w K mg base N_is_anchor "is_anchor" (defScope (top 15)) 0 [] [] (defBody (top 15)) (upS (B_is_anchor)) := by
  have nd := sc_is_anchor.nd
  intro f cdv A outer s H E hr
  exact vss_one (sR (lo (ve_or (lo (ve_cmp (od_eq (Room.u64 hr)) (VE.b (lv 0)) (VE.b (lo (ve_gstr rfl c_CLOCK) le_c)) (nomark _)) le_bin) (ve_one (lo (ve_cmp (od_in (Room.u65 hr)) (VE.b (lv 0)) (VE.b (VF.ve (loF (vf_callTy (cf_list rfl) rfl f_list boot_list (aB (VE.b (lv 1)) aN)) le_blt))) rfl) le_bin))) le_or))
abbrev k_rising : Nat := 1
theorem sc_rising : FnScope N_rising ["things"] (defScope (top 11)) := fsQ
theorem d_rising (f_len : mg "len" = none) : Body P w K mg base N_rising "rising" (defScope (top 11)) 0 [] [1] (defBody (top 11)) (upS (B_rising)) := by
  have nd := sc_rising.nd
  intro f cdv A outer s H E hr
  have ⟨_, po, _⟩ := cxq (P := P) (w := w) (K := K) (mg := mg) (base := base) N_rising "rising" (defScope (top 11)) f cdv A outer s H E
  exact sC (loS (vs_setF (i := 1) (by decide) (by decide) nd rfl (by first | exact .inl rfl | exact .inr rfl) (loF (vf_lst aN) le_lst)) ls_setF) (sC (loS (vs_for po rfl (loIs (vi_seq (lv 0)) le_iter) (loG (gN 2 nd) (lg_nm)) ((show VSs _ _ _ _ _ _ (upS (b_rising_1)) from vss_one (loS (vs_insert (i := 1) (by decide) rfl (by first | exact .inl rfl | exact .inr (.inl rfl) | exact .inr (.inr rfl)) (aC (lo (ve_callB cd_len rfl f_len boot_len (aB (VE.b (VF.ve (loF (xf_lc rfl rfl nd (loI (vi_ownS (i := 1) rfl (by decide) rfl (by first | exact .inl rfl | exact .inr (.inl rfl) | exact .inr (.inr rfl))) le_own) (blkOk_by (own := [("one", 3)]) (N := N_rising) (sc := defScope (top 11)) (by decide +kernel)) (by decide) (by decide) (fun c => loG (gN 3 nd) (lg_nm)) (fun c => vts_one (tC (od_le (Room.u64 hr)) (lv 3) (lv 2))) (fun c => lv 3)) le_lc))) aN)) le_blt) (aC (lv 2) aN))) ls_ins)))) ls_for) (vss_one (loS (vs_retO (i := 1) (by decide) rfl (by first | exact .inl rfl | exact .inr (.inl rfl) | exact .inr (.inr rfl))) ls_retV)))
abbrev k_way_up : Nat := 1
theorem sc_way_up : FnScope N_way_up ["anchors", "name"] (defScope (top 16)) := fsQ
theorem d_way_up (c_CLOCK : ∃ t, mg "CLOCK" = some (.str "clock" t)) : Body P w K mg base N_way_up "way_up" (defScope (top 16)) 0 [] [2] (defBody (top 16)) (upS (B_way_up)) := by
  have nd := sc_way_up.nd
  intro f cdv A outer s H E hr
  have ⟨_, po, _⟩ := cxq (P := P) (w := w) (K := K) (mg := mg) (base := base) N_way_up "way_up" (defScope (top 16)) f cdv A outer s H E
  exact sC (loS (vs_setF (i := 2) (by decide) (by decide) nd rfl (by first | exact .inl rfl | exact .inr rfl) (loF (vf_lst aN) le_lst)) ls_setF) (sC (sS 3 nd (lo (ve_dget (Room.u hr) (VE.b (lv 0)) (lv 1) (lo (ve_gstr rfl c_CLOCK) le_c)) le_dget)) (sC (loS (vs_while po (VW.t (loW (vw_and (tC (od_ne (Room.u64 hr)) (lv 3) (lo (ve_gstr rfl c_CLOCK) le_c)) (vw_and1 (loT (vt_cmp (od_notIn (Room.u65 hr)) (VE.b (lv 3)) (lo (vb_var (i := 2) (by decide) rfl (by first | exact .inl rfl | exact .inr (.inl rfl) | exact .inr (.inr rfl))) (le_var _)) rfl) le_binT))) le_andT)) ((show VSs _ _ _ _ _ _ (upS (b_way_up_1)) from sC (loS (vs_append (i := 2) (by decide) rfl (by first | exact .inl rfl | exact .inr (.inl rfl) | exact .inr (.inr rfl)) (lv 3)) ls_app) (vss_one (sS 3 nd (lo (ve_dget (Room.u hr) (VE.b (lv 0)) (lv 3) (lo (ve_gstr rfl c_CLOCK) le_c)) le_dget)))))) ls_while) (vss_one (loS (vs_retO (i := 2) (by decide) rfl (by first | exact .inl rfl | exact .inr (.inl rfl) | exact .inr (.inr rfl))) ls_retV))))
abbrev k_round_from : Nat := 1
theorem sc_round_from : FnScope N_round_from ["anchors", "name"] (defScope (top 17)) := fsQ
theorem d_round_from  : Body P w K mg base N_round_from "round_from" (defScope (top 17)) 0 [] [2] (defBody (top 17)) (upS (B_round_from)) := by
  have nd := sc_round_from.nd
  intro f cdv A outer s H E hr
  have ⟨_, po, _⟩ := cxq (P := P) (w := w) (K := K) (mg := mg) (base := base) N_round_from "round_from" (defScope (top 17)) f cdv A outer s H E
  exact sC (loS (vs_setF (i := 2) (by decide) (by decide) nd rfl (by first | exact .inl rfl | exact .inr rfl) (loF (vf_lst (aC (lv 1) aN)) le_lst)) ls_setF) (sC (loS (vs_while po (tC (od_ne (Room.u64 hr)) (eX hr (lv 0) (lo (ve_sub (Room.u hr) (lo (vb_var (i := 2) (by decide) rfl (by first | exact .inl rfl | exact .inr (.inl rfl) | exact .inr (.inr rfl))) (le_var _)) (VE.b (lo (ve_neg (VE.b eI)) le_neg)) (fun _ _ => rfl)) le_bin)) (lv 1)) ((show VSs _ _ _ _ _ _ (upS (b_round_from_1)) from vss_one (loS (vs_append (i := 2) (by decide) rfl (by first | exact .inl rfl | exact .inr (.inl rfl) | exact .inr (.inr rfl)) (eX hr (lv 0) (lo (ve_sub (Room.u hr) (lo (vb_var (i := 2) (by decide) rfl (by first | exact .inl rfl | exact .inr (.inl rfl) | exact .inr (.inr rfl))) (le_var _)) (VE.b (lo (ve_neg (VE.b eI)) le_neg)) (fun _ _ => rfl)) le_bin))) ls_app)))) ls_while) (vss_one (loS (vs_retO (i := 2) (by decide) rfl (by first | exact .inl rfl | exact .inr (.inl rfl) | exact .inr (.inr rfl))) ls_retV)))
abbrev k_check_rounds : Nat := 3
theorem sc_check_rounds : FnScope N_check_rounds ["anchors"] (defScope (top 18)) := fsQ
theorem d_check_rounds (G_rising : GFn P w K mg base "rising" k_rising ["things"] (lift K 1 (FSp.of f_rising))) (G_round_from : GFn P w K mg base "round_from" k_round_from ["anchors", "name"] (lift K 2 (FSp.of f_round_from))) (G_way_up : GFn P w K mg base "way_up" k_way_up ["anchors", "name"] (lift K 2 (FSp.of f_way_up))) (X_Round : GEx P w K mg base "Round" 1 ["names"]) (f_list : mg "list" = none) : Body P w K mg base N_check_rounds "check_rounds" (defScope (top 18)) 2 [] [] (defBody (top 18)) (upS (B_check_rounds)) := by
  have nd := sc_check_rounds.nd
  intro f cdv A outer s H E hr
  have ⟨tk, po, _⟩ := cxq (P := P) (w := w) (K := K) (mg := mg) (base := base) N_check_rounds "check_rounds" (defScope (top 18)) f cdv A outer s H E
  exact vss_one (loS (vs_for po rfl (loIs (vi_seq (eG tk G_rising hr (aC (VF.ve (loF (vf_callTy (cf_list rfl) rfl f_list boot_list (aB (VE.b (lv 0)) aN)) le_blt)) aN))) le_iter) (loG (gN 1 nd) (lg_nm)) ((show VSs _ _ _ _ _ _ (upS (b_check_rounds_1)) from vss_one (loS (vs_if (tC (od_in (Room.u65 hr)) (lv 1) (eG tk G_way_up hr (aC (lv 0) (aC (lv 1) aN)))) (vss_one (loS (vs_raise rfl tk X_Round hr (by decide) rfl (aC (eG tk G_round_from hr (aC (lv 0) (aC (lv 1) aN))) aN)) ls_raise)) (loSs vss_nil ls_nil)) ls_if)))) ls_for)
abbrev k_Hanging___init__ : Nat := 4
theorem sc_Hanging___init__ : FnScope N_Hanging___init__ ["self", "rows"] (defScope (mth 19 0)) := fsQ
theorem d_Hanging___init__ (G_check_rounds : GFn P w K mg base "check_rounds" k_check_rounds ["anchors"] (lift K 1 (FSp.of f_check_rounds))) (G_is_anchor : GFn P w K mg base "is_anchor" k_is_anchor ["thing", "names"] (lift K 2 (FSp.of f_is_anchor))) (G_is_name : GFn P w K mg base "is_name" k_is_name ["thing"] (lift K 1 (FSp.of f_is_name))) (G_rising : GFn P w K mg base "rising" k_rising ["things"] (lift K 1 (FSp.of f_rising))) (X_BadRow : GEx P w K mg base "BadRow" 1 ["name"]) (cl_Hanging : Cls K (He.ga K "Hanging")) (f_list : mg "list" = none) (na_Hanging_anchors : NoAttr K (He.ga K "Hanging") "anchors") : BodyQ P w K mg base "Hanging" N_Hanging___init__ "Hanging.__init__" (defScope (mth 19 0)) 3 [0] (defBody (mth 19 0)) (upS (B_Hanging___init__)) := by
  have nd := sc_Hanging___init__.nd
  intro f cdv A outer s H E hr
  have ⟨tk, po, uc⟩ := cxq (P := P) (w := w) (K := K) (mg := mg) (base := base) N_Hanging___init__ "Hanging.__init__" (defScope (mth 19 0)) f cdv A outer s H E
  exact loSsQ (vssQ_cons (loS (vs_forD uc po rfl (vd_items (pV 1)) (loG (vg_tup rfl (vgs_cons (gN 2 nd) (vgs_cons (gN 3 nd) (vgs_nil))) (fun _ _ _ h => ((gsok_cons gok_nm (gsok_cons gok_nm (gsok_nil))) _ _ _ h).1)) (lg_tp (lgs_cons (lg_nm) (lgs_cons (lg_nm) (lgs_nil))))) ((show VSs _ _ _ _ _ _ (upS (b_Hanging___init___1)) from vss_one (loS (vs_if (VW.t (loW (vw_or (loT (vt_not (loT (vt_val (eG tk G_is_name hr (aC (lv 2) aN))) le_val)) le_notT) (vw_or1 (loT (vt_not (loT (vt_val (eG tk G_is_anchor hr (aC (lv 3) (aC (lv 1) aN)))) le_val)) le_notT))) le_orT)) (vss_one (loS (vs_raise rfl tk X_BadRow hr (by decide) rfl (aC (lv 2) aN)) ls_raise)) (loSs vss_nil ls_nil)) ls_if)))) ls_forD) (loSsQ (vssQ_cons (loS (vs_expr (eG tk G_check_rounds hr (aC (lv 1) aN))) ls_drop) (loSsQ (vssQ_fld (by decide) rfl (by first | exact .inl rfl | exact .inr (.inl rfl) | exact .inr (.inr rfl)) cl_Hanging na_Hanging_anchors (loF (xf_dc rfl rfl nd (VIs.vi (loIs (vi_seq (eG tk G_rising hr (aC (VF.ve (loF (vf_callTy (cf_list rfl) rfl f_list boot_list (aB (VE.b (lv 1)) aN)) le_blt)) aN))) le_iter)) (blkOk_by (own := [("name", 2)]) (N := N_Hanging___init__) (sc := defScope (mth 19 0)) (by decide +kernel)) (by decide) (by decide) (fun c => loG (gN 2 nd) (lg_nm)) (fun c => loTs vts_nil le_yes) (fun c => lv 2) (fun c => eX hr (lv 1) (lv 2))) le_dc)) ls_fldQ)) ls_seq)) ls_seq
abbrev k__law_rising : Nat := 1
theorem sc__law_rising : FnScope N__law_rising ["_law_things"] (defScope (top 28)) := fsQ
theorem d__law_rising (f_len : mg "len" = none) : Body P w K mg base N__law_rising "_law_rising" (defScope (top 28)) 0 [] [1] (defBody (top 28)) (upS (B__law_rising)) := by
  have nd := sc__law_rising.nd
  intro f cdv A outer s H E hr
  have ⟨_, po, _⟩ := cxq (P := P) (w := w) (K := K) (mg := mg) (base := base) N__law_rising "_law_rising" (defScope (top 28)) f cdv A outer s H E
  exact sC (loS (vs_setF (i := 1) (by decide) (by decide) nd rfl (by first | exact .inl rfl | exact .inr rfl) (loF (vf_lst aN) le_lst)) ls_setF) (sC (loS (vs_for po rfl (loIs (vi_seq (lv 0)) le_iter) (loG (gN 2 nd) (lg_nm)) ((show VSs _ _ _ _ _ _ (upS (b__law_rising_1)) from vss_one (loS (vs_insert (i := 1) (by decide) rfl (by first | exact .inl rfl | exact .inr (.inl rfl) | exact .inr (.inr rfl)) (aC (lo (ve_callB cd_len rfl f_len boot_len (aB (VE.b (VF.ve (loF (xf_lc rfl rfl nd (loI (vi_ownS (i := 1) rfl (by decide) rfl (by first | exact .inl rfl | exact .inr (.inl rfl) | exact .inr (.inr rfl))) le_own) (blkOk_by (own := [("_law_x", 3)]) (N := N__law_rising) (sc := defScope (top 28)) (by decide +kernel)) (by decide) (by decide) (fun c => loG (gN 3 nd) (lg_nm)) (fun c => vts_one (tC (od_le (Room.u64 hr)) (lv 3) (lv 2))) (fun c => lv 3)) le_lc))) aN)) le_blt) (aC (lv 2) aN))) ls_ins)))) ls_for) (vss_one (loS (vs_retO (i := 1) (by decide) rfl (by first | exact .inl rfl | exact .inr (.inl rfl) | exact .inr (.inr rfl))) ls_retV)))
abbrev k_Hanging_rows : Nat := 1
theorem sc_Hanging_rows : FnScope N_Hanging_rows ["self"] (defScope (mth 19 1)) := fsQ
theorem d_Hanging_rows (cl_Hanging : Cls K (He.ga K "Hanging")) (f_dict : mg "dict" = none) (na_Hanging_anchors : NoAttr K (He.ga K "Hanging") "anchors") : BodyF P w K mg base N_Hanging_rows "Hanging.rows" (defScope (mth 19 1)) 0 (defBody (mth 19 1)) (upS (B_Hanging_rows)) := by
  have nd := sc_Hanging_rows.nd
  intro f cdv A outer s H E hr
  exact loSF (vssF_ret (loF (vf_callTy (cf_dict rfl) rfl f_dict boot_dict (aB (VE.b (eF cl_Hanging na_Hanging_anchors (lv 0))) aN)) le_blt)) ls_ret
abbrev k__law_same : Nat := 7
theorem sc__law_same : FnScope N__law_same ["_law_found", "_law_due"] (defScope (top 25)) := fsQ
theorem d__law_same {kk : Nat} {sf : FFn} (hkk : 0 ≤ kk) (G_self : GFn P w K mg base "_law_same" kk ["_law_found", "_law_due"] (lift K 2 (FSp.of sf))) (f_all : mg "all" = none) (f_bool : mg "bool" = none) (f_int : mg "int" = none) (f_isinstance : mg "isinstance" = none) (f_len : mg "len" = none) (f_list : mg "list" = none) (f_tuple : mg "tuple" = none) (f_zip : mg "zip" = none) : Body P w K mg base N__law_same "_law_same" (defScope (top 25)) kk [] [] (defBody (top 25)) (upS (B__law_same sf)) := by
  have nd := sc__law_same.nd
  intro f cdv A outer s H E hr
  exact sC (loS (vs_if (loT (vt_val (lo (ve_callB cd_isi rfl f_isinstance boot_isinstance (aB (VE.b (lv 1)) (aB (VE.b (lo (ve_tup (aC (lo (ve_bty (T := "list") rfl f_list boot_list) le_c) (aC (lo (ve_bty (T := "tuple") rfl f_tuple boot_tuple) le_c) aN))) le_tup)) aN))) le_blt)) le_val) (sC (loS (vs_if (VW.t (loW (vw_or (tC (od_neX (Room.u66 hr)) (lo (ve_callB cd_isi rfl f_isinstance boot_isinstance (aB (VE.b (lv 0)) (aB (VE.b (lo (ve_bty (T := "list") rfl f_list boot_list) le_c)) aN))) le_blt) (lo (ve_callB cd_isi rfl f_isinstance boot_isinstance (aB (VE.b (lv 1)) (aB (VE.b (lo (ve_bty (T := "list") rfl f_list boot_list) le_c)) aN))) le_blt)) (vw_or1 (tC (od_neX (Room.u66 hr)) (lo (ve_callB cd_isi rfl f_isinstance boot_isinstance (aB (VE.b (lv 0)) (aB (VE.b (lo (ve_bty (T := "tuple") rfl f_tuple boot_tuple) le_c)) aN))) le_blt) (lo (ve_callB cd_isi rfl f_isinstance boot_isinstance (aB (VE.b (lv 1)) (aB (VE.b (lo (ve_bty (T := "tuple") rfl f_tuple boot_tuple) le_c)) aN))) le_blt)))) le_orT)) (vss_one (sR (lo (ve_bl) le_c))) (loSs vss_nil ls_nil)) ls_if) (vss_one (sR (lo (ve_and (lo (ve_cmp (od_eqX (Room.u66 hr)) (VE.b (lo (ve_callB cd_len rfl f_len boot_len (aB (VE.b (lv 0)) aN)) le_blt)) (VE.b (lo (ve_callB cd_len rfl f_len boot_len (aB (VE.b (lv 1)) aN)) le_blt)) (nomark _)) le_bin) (ve_one (lo (ve_callB (cd_all rfl) rfl f_all boot_all (aB (VE.b (VF.ve (loF (xf_lc rfl rfl nd (VIs.vi (loIs (vi_zip rfl f_zip (lv 0) (lv 1)) le_zip)) (blkOk_by (own := [("_law_x", 2), ("_law_y", 3)]) (N := N__law_same) (sc := defScope (top 25)) (by decide +kernel)) (by decide) (by decide) (fun c => loG (vg_tup rfl (vgs_cons (gN 2 nd) (vgs_cons (gN 3 nd) (vgs_nil))) (fun _ _ _ h => ((gsok_cons gok_nm (gsok_cons gok_nm (gsok_nil))) _ _ _ h).1)) (lg_tp (lgs_cons (lg_nm) (lgs_cons (lg_nm) (lgs_nil))))) (fun c => loTs vts_nil le_yes) (fun c => lo (ve_g tk_f rfl G_self hr (Nat.le_refl _) rfl (aC (lv 2) (aC (lv 3) aN))) le_call)) le_lc))) aN)) le_blt))) le_and)))) (loSs vss_nil ls_nil)) ls_if) (sC (loS (vs_if (loT (vt_val (lo (ve_callB cd_isi rfl f_isinstance boot_isinstance (aB (VE.b (lv 1)) (aB (VE.b (lo (ve_bty (T := "int") rfl f_int boot_int) le_c)) aN))) le_blt)) le_val) (vss_one (sR (lo (ve_and (lo (ve_callB cd_isi rfl f_isinstance boot_isinstance (aB (VE.b (lv 0)) (aB (VE.b (lo (ve_bty (T := "int") rfl f_int boot_int) le_c)) aN))) le_blt) (lo (ve_and (lo (ve_cmp (od_eqX (Room.u66 hr)) (VE.b (lo (ve_callB cd_isi rfl f_isinstance boot_isinstance (aB (VE.b (lv 0)) (aB (VE.b (lo (ve_bty (T := "bool") rfl f_bool boot_bool) le_c)) aN))) le_blt)) (VE.b (lo (ve_callB cd_isi rfl f_isinstance boot_isinstance (aB (VE.b (lv 1)) (aB (VE.b (lo (ve_bty (T := "bool") rfl f_bool boot_bool) le_c)) aN))) le_blt)) (nomark _)) le_bin) (ve_one (lo (ve_cmp (od_eqX (Room.u66 hr)) (VE.b (lv 0)) (VE.b (lv 1)) (nomark _)) le_bin))) le_and)) le_and))) (loSs vss_nil ls_nil)) ls_if) (vss_one (sR (lo (ve_and (lo (ve_cmp od_is (VE.b (lo (ve_callB cd_isi rfl f_isinstance boot_isinstance (aB (VE.b (lv 0)) (aB (VE.b (lo (ve_tup (aC (lo (ve_bty (T := "int") rfl f_int boot_int) le_c) (aC (lo (ve_bty (T := "list") rfl f_list boot_list) le_c) (aC (lo (ve_bty (T := "tuple") rfl f_tuple boot_tuple) le_c) aN)))) le_tup)) aN))) le_blt)) (VE.b (lo (ve_bl) le_c)) (nomark _)) le_bin) (ve_one (lo (ve_cmp (od_eqX (Room.u66 hr)) (VE.b (lv 0)) (VE.b (lv 1)) (nomark _)) le_bin))) le_and))))
abbrev k__law_same_dict : Nat := 8
theorem sc__law_same_dict : FnScope N__law_same_dict ["_law_found", "_law_due"] (defScope (top 26)) := fsQ
theorem d__law_same_dict (G__law_same : GFn P w K mg base "_law_same" k__law_same ["_law_found", "_law_due"] (lift K 2 (FSp.of f__law_same))) (f_all : mg "all" = none) (f_dict : mg "dict" = none) (f_isinstance : mg "isinstance" = none) (f_list : mg "list" = none) : Body P w K mg base N__law_same_dict "_law_same_dict" (defScope (top 26)) 7 [] [] (defBody (top 26)) (upS (B__law_same_dict)) := by
  have nd := sc__law_same_dict.nd
  intro f cdv A outer s H E hr
  exact sC (loS (vs_if (VW.t (loW (vw_or (loT (vt_not (loT (vt_val (lo (ve_callB cd_isi rfl f_isinstance boot_isinstance (aB (VE.b (lv 0)) (aB (VE.b (lo (ve_bty (T := "dict") rfl f_dict boot_dict) le_c)) aN))) le_blt)) le_val)) le_notT) (vw_or1 (tC (od_neX (Room.u66 hr)) (VF.ve (loF (vf_callTy (cf_list rfl) rfl f_list boot_list (aB (VE.b (lv 0)) aN)) le_blt)) (VF.ve (loF (vf_callTy (cf_list rfl) rfl f_list boot_list (aB (VE.b (lv 1)) aN)) le_blt))))) le_orT)) (vss_one (sR (lo (ve_bl) le_c))) (loSs vss_nil ls_nil)) ls_if) (vss_one (sR (lo (ve_callB (cd_all rfl) rfl f_all boot_all (aB (VE.b (VF.ve (loF (xf_lcD rfl rfl nd (vd_keys (pV 1)) (blkOk_by (own := [("_law_key", 2)]) (N := N__law_same_dict) (sc := defScope (top 26)) (by decide +kernel)) (by decide) (by decide) (fun c => loG (gN 2 nd) (lg_nm)) (fun c => loTs vts_nil le_yes) (fun c => eG tk_f G__law_same hr (aC (eX hr (lv 0) (lv 2)) (aC (eX hr (lv 1) (lv 2)) aN)))) le_lcD))) aN)) le_blt)))
abbrev k_Hanging_dishes : Nat := 1
theorem sc_Hanging_dishes : FnScope N_Hanging_dishes ["self"] (defScope (mth 19 2)) := fsQ
theorem d_Hanging_dishes (cl_Hanging : Cls K (He.ga K "Hanging")) (f_list : mg "list" = none) (na_Hanging_anchors : NoAttr K (He.ga K "Hanging") "anchors") : BodyF P w K mg base N_Hanging_dishes "Hanging.dishes" (defScope (mth 19 2)) 0 (defBody (mth 19 2)) (upS (B_Hanging_dishes)) := by
  have nd := sc_Hanging_dishes.nd
  intro f cdv A outer s H E hr
  exact loSF (vssF_ret (loF (vf_callTy (cf_list rfl) rfl f_list boot_list (aB (VE.b (eF cl_Hanging na_Hanging_anchors (lv 0))) aN)) le_blt)) ls_ret
abbrev k_Hanging_looks : Nat := 1
theorem sc_Hanging_looks : FnScope N_Hanging_looks ["self"] (defScope (mth 19 4)) := fsQ
theorem d_Hanging_looks (cl_Hanging : Cls K (He.ga K "Hanging")) (na_Hanging_anchors : NoAttr K (He.ga K "Hanging") "anchors") : BodyF P w K mg base N_Hanging_looks "Hanging.looks" (defScope (mth 19 4)) 0 (defBody (mth 19 4)) (upS (B_Hanging_looks)) := by
  have nd := sc_Hanging_looks.nd
  intro f cdv A outer s H E hr
  exact loSF (vssF_ret (loF (xf_lcD rfl rfl nd (vd_keys (vp_fld cl_Hanging na_Hanging_anchors (pV 0))) (blkOk_by (own := [("name", 1)]) (N := N_Hanging_looks) (sc := defScope (mth 19 4)) (by decide +kernel)) (by decide) (by decide) (fun c => loG (gN 1 nd) (lg_nm)) (fun c => vts_one (loT (vt_inV rfl (Room.u65 hr) (VE.b (lv 1)) (VE.b (eF cl_Hanging na_Hanging_anchors (lv 0)))) (le_valT le_bin))) (fun c => lv 1)) le_lcD)) ls_ret
abbrev k_Hanging___iter__ : Nat := 1
theorem sc_Hanging___iter__ : FnScope N_Hanging___iter__ ["self"] (defScope (mth 19 5)) := fsQ
theorem d_Hanging___iter__ (f_iter : mg "iter" = none) : BodyIt P w K mg base N_Hanging___iter__ "Hanging.__iter__" (defScope (mth 19 5)) "anchors" (defBody (mth 19 5)) :=
  ⟨_, _, _, _, _, rfl, fun f cdv A outer s H E => pe_callB call_iterK rfl f_iter rfl (pa_cons (pe_fld (pe_var rfl (by first | exact .inl rfl | exact .inr (.inl rfl) | exact .inr (.inr rfl))) rfl) pa_nil rfl)⟩
abbrev k_is_among : Nat := 1
theorem sc_is_among : FnScope N_is_among ["thing", "names"] (defScope (top 10)) := fsQ
theorem d_is_among (f_isinstance : mg "isinstance" = none) (f_str : mg "str" = none) : Body P w K mg base N_is_among "is_among" (defScope (top 10)) 0 [] [] (defBody (top 10)) (upS (B_is_among)) := by
  have nd := sc_is_among.nd
  intro f cdv A outer s H E hr
  exact vss_one (sR (lo (ve_and (lo (ve_callB cd_isi rfl f_isinstance boot_isinstance (aB (VE.b (lv 0)) (aB (VE.b (lo (ve_bty (T := "str") rfl f_str boot_str) le_c)) aN))) le_blt) (ve_one (lo (ve_cmp (od_in (Room.u65 hr)) (VE.b (lv 0)) (VE.b (lv 1)) rfl) le_bin))) le_and))
abbrev k_check_dish : Nat := 3
theorem sc_check_dish : FnScope N_check_dish ["name", "names"] (defScope (top 13)) := fsQ
theorem d_check_dish (G_is_among : GFn P w K mg base "is_among" k_is_among ["thing", "names"] (lift K 2 (FSp.of f_is_among))) (X_NoDish : GEx P w K mg base "NoDish" 1 ["name"]) : Body P w K mg base N_check_dish "check_dish" (defScope (top 13)) 2 [] [] (defBody (top 13)) (upS (B_check_dish)) := by
  have nd := sc_check_dish.nd
  intro f cdv A outer s H E hr
  have ⟨tk, _, _⟩ := cxq (P := P) (w := w) (K := K) (mg := mg) (base := base) N_check_dish "check_dish" (defScope (top 13)) f cdv A outer s H E
  exact vss_one (loS (vs_if (loT (vt_not (loT (vt_val (eG tk G_is_among hr (aC (lv 0) (aC (lv 1) aN)))) le_val)) le_notT) (vss_one (loS (vs_raise rfl tk X_NoDish hr (by decide) rfl (aC (lv 0) aN)) ls_raise)) (loSs vss_nil ls_nil)) ls_if)
abbrev k_Hanging_way : Nat := 4
theorem sc_Hanging_way : FnScope N_Hanging_way ["self", "name"] (defScope (mth 19 3)) := fsQ
theorem d_Hanging_way (G_check_dish : GFn P w K mg base "check_dish" k_check_dish ["name", "names"] (lift K 2 (FSp.of f_check_dish))) (G_way_up : GFn P w K mg base "way_up" k_way_up ["anchors", "name"] (lift K 2 (FSp.of f_way_up))) (cl_Hanging : Cls K (He.ga K "Hanging")) (na_Hanging_anchors : NoAttr K (He.ga K "Hanging") "anchors") : BodyF P w K mg base N_Hanging_way "Hanging.way" (defScope (mth 19 3)) 3 (defBody (mth 19 3)) (upS (B_Hanging_way)) := by
  have nd := sc_Hanging_way.nd
  intro f cdv A outer s H E hr
  have ⟨tk, _, _⟩ := cxq (P := P) (w := w) (K := K) (mg := mg) (base := base) N_Hanging_way "Hanging.way" (defScope (mth 19 3)) f cdv A outer s H E
  exact loSF (vssF_cons (loS (vs_expr (eG tk G_check_dish hr (aC (lv 1) (aC (eF cl_Hanging na_Hanging_anchors (lv 0)) aN)))) ls_drop) (loSF (vssF_ret (loF (vf_rev (eG tk G_way_up hr (aC (eF cl_Hanging na_Hanging_anchors (lv 0)) (aC (lv 1) aN)))) le_rev)) ls_ret)) ls_seqF
abbrev k__law_way : Nat := 1
theorem sc__law_way : FnScope N__law_way ["_law_rows", "_law_name"] (defScope (top 31)) := fsQ
theorem d__law_way  : Body P w K mg base N__law_way "_law_way" (defScope (top 31)) 0 [] [] (defBody (top 31)) (upS (B__law_way)) := by
  have nd := sc__law_way.nd
  intro f cdv A outer s H E hr
  have ⟨_, po, _⟩ := cxq (P := P) (w := w) (K := K) (mg := mg) (base := base) N__law_way "_law_way" (defScope (top 31)) f cdv A outer s H E
  exact sC (loS (vs_par (i := 2) (j := 3) (by decide) (by decide) rfl nd rfl rfl (by decide) rfl rfl (VF.ve (loF (vf_lst aN) le_lst)) (eX hr (lv 0) (lv 1)) rfl) ls_par) (sC (loS (vs_while po (tC (od_ne (Room.u64 hr)) (lv 3) eS) ((show VSs _ _ _ _ _ _ (upS (b__law_way_1)) from vss_one (loS (vs_par (i := 2) (j := 3) (by decide) (by decide) rfl nd rfl rfl (by decide) rfl rfl (lo (ve_bin od_add (VE.b (VF.ve (loF (vf_lst (aC (lv 3) aN)) le_lst))) (VE.b (lv 2))) le_bin) (eX hr (lv 0) (lv 3)) rfl) ls_par)))) ls_while) (vss_one (sR (lv 2))))
abbrev k__law_with : Nat := 1
theorem sc__law_with : FnScope N__law_with ["_law_things", "_law_name", "_law_thing"] (defScope (top 30)) := fsQ
theorem d__law_with (f_dict : mg "dict" = none) : Body P w K mg base N__law_with "_law_with" (defScope (top 30)) 0 [] [3] (defBody (top 30)) (upS (B__law_with)) := by
  have nd := sc__law_with.nd
  intro f cdv A outer s H E hr
  exact sC (loS (vs_setF (i := 3) (by decide) (by decide) nd rfl (by first | exact .inl rfl | exact .inr rfl) (loF (vf_callTy (cf_dict rfl) rfl f_dict boot_dict (aB (VE.b (lv 0)) aN)) le_blt)) ls_setF) (sC (loS (vs_dput (i := 3) (Room.u hr) (by decide) rfl (by first | exact .inl rfl | exact .inr (.inl rfl) | exact .inr (.inr rfl)) (lv 1) (lv 2)) ls_dput) (vss_one (loS (vs_retO (i := 3) (by decide) rfl (by first | exact .inl rfl | exact .inr (.inl rfl) | exact .inr (.inr rfl))) ls_retV)))
abbrev k_Hanging___eq__ : Nat := 1
theorem sc_Hanging___eq__ : FnScope N_Hanging___eq__ ["self", "other"] (defScope (mth 19 6)) := fsQ
theorem d_Hanging___eq__ (cl_Hanging : Cls K (He.ga K "Hanging")) (f_isinstance : mg "isinstance" = none) (gl_Hanging : mg "Hanging" = some (.ref (He.ga K "Hanging"))) (iu_Hanging : IsU K (He.ga K "Hanging")) (na_Hanging_anchors : NoAttr K (He.ga K "Hanging") "anchors") : Body P w K mg base N_Hanging___eq__ "Hanging.__eq__" (defScope (mth 19 6)) 0 [] [] (defBody (mth 19 6)) (upS (B_Hanging___eq__)) := by
  have nd := sc_Hanging___eq__.nd
  intro f cdv A outer s H E hr
  exact vss_one (sR (lo (ve_and (lo (ve_isU rfl f_isinstance rfl gl_Hanging iu_Hanging (lv 1)) le_isU) (ve_one (lo (ve_cmp (od_eqX (Room.u66 hr)) (VE.b (eF cl_Hanging na_Hanging_anchors (lv 0))) (VE.b (eF cl_Hanging na_Hanging_anchors (lv 1))) (nomark _)) le_bin))) le_and))
abbrev k_law : Nat := 9
theorem sc_law : FnScope N_law ["_law_script"] (defScope (top 33)) := fsQ
theorem d_law {c0 P0 : Addr} (TB0 : LamX.TabB base mg c0 P0) (hT0 : (P0, ((envOfC "law" (defScope (top 33)) 0 0 .none).qual ++ "<lambda>")) ∈ TabC.T) (hU0 : ∀ p ∈ TabC.T, p.1 = P0 → p.2 = ((envOfC "law" (defScope (top 33)) 0 0 .none).qual ++ "<lambda>")) (G_Hanging_dishes : GMe P w K mg base "Hanging" "dishes" k_Hanging_dishes ["self"] [] (liftF K 1 (FSp.of f_Hanging_dishes))) (G_Hanging_looks : GMe P w K mg base "Hanging" "looks" k_Hanging_looks ["self"] [] (liftF K 1 (FSp.of f_Hanging_looks))) (G_Hanging_rows : GMe P w K mg base "Hanging" "rows" k_Hanging_rows ["self"] [] (liftF K 1 (FSp.of f_Hanging_rows))) (G_Hanging_way : GMe P w K mg base "Hanging" "way" k_Hanging_way ["self", "name"] [] (liftF K 2 (FSp.of f_Hanging_way))) (G__law_hung : GFn P w K mg base "_law_hung" k__law_hung ["_law_state", "_law_names_here"] (lift K 2 sp__law_hung)) (G__law_names : GFn P w K mg base "_law_names" k__law_names ["_law_state", "_law_many"] (lift K 2 sp__law_names)) (G__law_rising : GFn P w K mg base "_law_rising" k__law_rising ["_law_things"] (lift K 1 (FSp.of f__law_rising))) (G__law_same : GFn P w K mg base "_law_same" k__law_same ["_law_found", "_law_due"] (lift K 2 (FSp.of f__law_same))) (G__law_same_dict : GFn P w K mg base "_law_same_dict" k__law_same_dict ["_law_found", "_law_due"] (lift K 2 (FSp.of f__law_same_dict))) (G__law_take : GFn P w K mg base "_law_take" k__law_take ["_law_state", "_law_many"] (lift K 2 sp__law_take)) (G__law_way : GFn P w K mg base "_law_way" k__law_way ["_law_rows", "_law_name"] (lift K 2 (FSp.of f__law_way))) (G__law_with : GFn P w K mg base "_law_with" k__law_with ["_law_things", "_law_name", "_law_thing"] (lift K 3 (FSp.of f__law_with))) (It_Hanging : GIt P w K mg base "Hanging" "anchors" k_Hanging___iter__) (KQ_Hanging : GMkQ P w K mg base "Hanging" "Hanging" k_Hanging___init__ ["self", "rows"] (FSp.of f_Hanging___init__)) (N_Hanging : NeOk K (He.ga K "Hanging")) (O_Hanging___eq__ : GOp P w K mg base "Hanging" "__eq__" k_Hanging___eq__ ["self", "other"] (lift K 2 (FSp.of f_Hanging___eq__))) (U__law_tried : GTr P w K mg base "_law_tried" (.told "told") [("NoDish", some 2, .fld "none" "name")]) (eu_Hanging : EqU K (He.ga K "Hanging")) (f_dict : mg "dict" = none) (f_list : mg "list" = none) (f_range : mg "range" = none) : BodyL P w K mg base N_law "law" (defScope (top 33)) 8 [] [] (defBody (top 33)).tail (B_law) c0 := by
  have nd := sc_law.nd
  intro f A outer s H E hr
  have tk := cx_tk (P := P) (w := w) (K := K) (mg := mg) (base := base) (N := N_law) (qual := "law") (scope := defScope (top 33)) (f := f) (cdv := .ref c0) (A := A) (outer := outer) (s := s) (H := H) (E := E)
  have po := cx_po (P := P) (w := w) (K := K) (mg := mg) (base := base) (N := N_law) (qual := "law") (scope := defScope (top 33)) (f := f) (cdv := .ref c0) (A := A) (outer := outer) (s := s) (H := H) (E := E)
  have uc := cx_uc (P := P) (w := w) (K := K) (mg := mg) (base := base) (N := N_law) (qual := "law") (scope := defScope (top 33)) (f := f) (cdv := .ref c0) (A := A) (outer := outer) (s := s) (H := H) (E := E)
  exact vss_cons (vs_for po rfl (loIs (vi_range1 rfl f_range (VE.b eI)) le_range1) (loG (gN 2 nd) (lg_nm)) (VSs.weak (O' := [5]) (vss_cons (vs_set (i := 3) (by decide) nd rfl (by first | exact .inl rfl | exact .inr rfl) (ve_g tk rfl G__law_names hr (by decide) rfl (va_cons stbE (lv 1) (va_cons stbE (ve_g tk rfl G__law_take hr (by decide) rfl (aC (lv 1) (aC eI aN))) aN)))) (vss_cons (vs_set (i := 4) (by decide) nd rfl (by first | exact .inl rfl | exact .inr rfl) (ve_g tk rfl G__law_hung hr (by decide) rfl (aC (lv 1) (aC (lv 3) aN)))) (vss_cons (loS (vs_setF (i := 5) (by decide) (by decide) nd rfl (by first | exact .inl rfl | exact .inr rfl) (loF (vf_callTy (cf_dict rfl) rfl f_dict boot_dict (aB (VE.b (lv 4)) aN)) le_blt)) ls_setF) (vss_cons (loS (vs_asg (lo (ve_tup (aC (lo (ve_mkQ tk rfl KQ_Hanging hr (by decide) rfl (loAO (vao_own (i := 5) (by decide) rfl (by first | exact .inl rfl | exact .inr (.inl rfl) | exact .inr (.inr rfl)) (loAO vao_nil le_nil)) le_consO)) le_makeQ) (aC (eG tk G__law_rising hr (aC (lv 3) aN)) aN))) le_tup) (loG (vg_tup rfl (vgs_cons (gN 13 nd) (vgs_cons (gN 14 nd) (vgs_nil))) (fun _ _ _ h => ((gsok_cons gok_nm (gsok_cons gok_nm (gsok_nil))) _ _ _ h).1)) (lg_tp (lgs_cons (lg_nm) (lgs_cons (lg_nm) (lgs_nil)))))) ls_asg) (vss_cons (loS (vs_dput (i := 5) (Room.u hr) (by decide) rfl (by first | exact .inl rfl | exact .inr (.inl rfl) | exact .inr (.inr rfl)) eS eS) ls_dput) (vss_cons (sS 6 nd (VF.ve (loF (vf_callTy (cf_dict rfl) rfl f_dict boot_dict (aB (VE.b (VF.ve (loF (xf_lc rfl rfl nd (VIs.vi (loIs (vi_seq (lv 14)) le_iter)) (blkOk_by (own := [("_law_name", 9)]) (N := N_law) (sc := defScope (top 33)) (by decide +kernel)) (by decide) (by decide) (fun c => loG (gN 9 nd) (lg_nm)) (fun c => loTs vts_nil le_yes) (fun c => lo (ve_tup (aC (lv 9) (aC (eX hr (lv 4) (lv 9)) aN))) le_tup)) le_lc))) aN)) le_blt))) (vss_cons (loS (xs_setLc rfl (i := 7) (by decide) (by decide) rfl rfl (sw_true rfl rfl rfl (by decide +kernel)) rfl nd (VIs.vi (loIs (vi_seq (lv 14)) le_iter)) (blkOk_by (own := [("_law_name", 9)]) (N := N_law) (sc := defScope (top 33)) (by decide +kernel)) (by decide) (by decide) (fun c => loG (gN 9 nd) (lg_nm)) (fun c => vts_one (loT (vt_inV rfl (Room.u65 hr) (VE.b (lv 9)) (VE.b (lv 4))) (le_valT le_bin))) (fun c => lv 9)) (ls_setM le_lc)) (vss_cons (VS.rel (O := [5]) (loS (vs_for po rfl (loIs (vi_range1 rfl f_range (VE.b eI)) le_range1) (loG (gN 8 nd) (lg_nm)) ((show VSs _ _ _ _ _ _ (upS (b_law_1)) from sC (loS (vs_if (loT (vt_not (loT (vt_val (eG tk G__law_same_dict hr (aC (VF.ve (loF (vf_me0 tk rfl G_Hanging_rows hr (by decide) (lv 13)) le_meth0)) (aC (lv 6) aN)))) le_val)) le_notT) (vss_one (sR (lo (ve_bl) le_c))) (loSs vss_nil ls_nil)) ls_if) (sC (loS (vs_if (loT (vt_not (loT (vt_val (eG tk G__law_same hr (aC (VF.ve (loF (vf_lst (aC (VF.ve (loF (vf_me0 tk rfl G_Hanging_dishes hr (by decide) (lv 13)) le_meth0)) (aC (VF.ve (loF (vf_me0 tk rfl G_Hanging_looks hr (by decide) (lv 13)) le_meth0)) aN))) le_lst)) (aC (VF.ve (loF (vf_lst (aC (lv 14) (aC (lv 7) aN))) le_lst)) aN)))) le_val)) le_notT) (vss_one (sR (lo (ve_bl) le_c))) (loSs vss_nil ls_nil)) ls_if) (sC (loS (vs_if (VW.t (loW (vw_or (tC (od_neX (Room.u66 hr)) (VF.ve (loF (xf_lcD rfl rfl nd (vd_ownIt It_Hanging hr (by decide) (pV 13)) (blkOk_by (own := [("_law_name", 9)]) (N := N_law) (sc := defScope (top 33)) (by decide +kernel)) (by decide) (by decide) (fun c => loG (gN 9 nd) (lg_nm)) (fun c => loTs vts_nil le_yes) (fun c => lv 9)) le_lcD)) (lv 14)) (vw_or1 (tC (od_neX (Room.u66 hr)) (VF.ve (loF (vf_listIt It_Hanging hr (by decide) rfl f_list (pV 13)) le_lIt)) (lv 14)))) le_orT)) (vss_one (sR (lo (ve_bl) le_c))) (loSs vss_nil ls_nil)) ls_if) (loSs (vss_told3 (i := 15) (by decide) nd rfl (by first | exact .inl rfl | exact .inr rfl) (by first | exact .inl rfl | exact .inr (.inl rfl) | exact .inr (.inr rfl)) (loF (vf_me0 tk rfl G_Hanging_rows hr (by decide) (lv 13)) le_meth0) (loF (vf_me0 tk rfl G_Hanging_dishes hr (by decide) (lv 13)) le_meth0) (loF (vf_me0 tk rfl G_Hanging_looks hr (by decide) (lv 13)) le_meth0) (loSs vss_nil ls_nil)) ls_told3)))))) ls_for) (by decide)) (vss_cons (loS (vs_for po rfl (loIs (vi_seq (lv 3)) le_iter) (loG (gN 9 nd) (lg_nm)) ((show VSs _ _ _ _ _ _ (upS (b_law_3)) from vss_one (loS (vs_for po rfl (loIs (vi_range1 rfl f_range (VE.b eI)) le_range1) (loG (gN 8 nd) (lg_nm)) ((show VSs _ _ _ _ _ _ (upS (b_law_2)) from VSs.weak (O' := [16, 5]) (sC (loS (vs_setF (i := 16) (by decide) (by decide) nd rfl (by first | exact .inl rfl | exact .inr rfl) (loF (vf_me tk rfl G_Hanging_way hr (by decide) (lv 13) (aC (lv 9) aN)) le_meth)) ls_setF) (sC (loS (vs_if (loT (vt_not (loT (vt_val (lo (ve_gB tk rfl G__law_same hr (by decide) rfl (loAO (vao_own (i := 16) (by decide) rfl (by first | exact .inl rfl | exact .inr (.inl rfl) | exact .inr (.inr rfl)) (loAO (vao_cons (eG tk G__law_way hr (aC (lv 4) (aC (lv 9) aN))) (loAO vao_nil le_nil)) le_cons)) le_consO)) le_callB)) le_val)) le_notT) (vss_one (sR (lo (ve_bl) le_c))) (loSs vss_nil ls_nil)) ls_if) (vss_one (loS (vs_append (i := 16) (by decide) rfl (by first | exact .inl rfl | exact .inr (.inl rfl) | exact .inr (.inr rfl)) eS) ls_app)))) (by decide)))) ls_for)))) ls_for) (vss_cons (loS (vs_for po rfl (loIs (vi_seq (VF.ve (loF (vf_lst (aC eS (aC eS (aC eS (aC (lo (ve_non) le_c) (aC eI (aC (VF.ve (loF (vf_lst aN) le_lst)) (aC (lo (ve_tup (aC eS aN)) le_tup) (aC (VF.ve (loF vf_dic0 le_c)) (aC (lo (ve_bl) le_c) aN)))))))))) le_lst))) le_iter) (loG (gN 10 nd) (lg_nm)) ((show VSs _ _ _ _ _ _ (upS (b_law_4)) from vss_one (loS (vs_if (loT (vt_not (loT (vt_val (eG tk G__law_same hr (aC (lo (ve_tried U__law_tried rfl TB0 rfl hT0 hU0 hr (k := 6) (by decide) (LamX.lamS_by (sc := defScope (top 33)) (by decide +kernel)) rfl (by intros; rfl) (fun A outer s H E f c' hr => have tk := lam_tk (A := A) (outer := outer) (s := s) (H := H) (E := E) (f := f) (c' := c'); VF.ve (loF (vf_me tk rfl G_Hanging_way hr (by decide) (lv 13) (aC (lv 10) aN)) le_meth))) le_tried) (aC (lo (ve_tup (aC eS (aC (lv 10) aN))) le_tup) aN)))) le_val)) le_notT) (vss_one (sR (lo (ve_bl) le_c))) (loSs vss_nil ls_nil)) ls_if)))) ls_for) (vss_cons (vs_set (i := 11) (by decide) nd rfl (by first | exact .inl rfl | exact .inr rfl) (VF.ve (vf_lst (va_cons stbE (lo (ve_non) le_c) (va_cons stbE (lv 6) (va_cons stbE (lo (ve_mkQ tk rfl KQ_Hanging hr (by decide) rfl (loAO (vao_cons (eG tk G__law_with hr (aC (lv 4) (aC eS (aC eS aN)))) (loAO vao_nil le_nil)) le_cons)) le_makeQ) (va_cons stbE (ve_mkQ tk rfl KQ_Hanging hr (by decide) rfl (vao_cons (ve_g tk rfl G__law_hung hr (by decide) rfl (aC (lv 1) (aC (lv 3) aN))) (loAO vao_nil le_nil))) aN))))))) (sC (loS (vs_for po rfl (loIs (vi_seq (lo (ve_slice (VE.b (lv 11)) (loO vo_none le_none) (loO (vo_some (VE.b eI)) le_some)) le_sl)) le_iter) (loG (gN 12 nd) (lg_nm)) ((show VSs _ _ _ _ _ _ (upS (b_law_5)) from vss_one (loS (vs_if (VW.t (loW (vw_or (loT (vt_eqU tk eu_Hanging rfl O_Hanging___eq__ hr (by decide) (lv 13) (lv 12) rfl) (le_valT le_eqU)) (loW (vw_or (loT (vt_eqR tk eu_Hanging rfl O_Hanging___eq__ hr (by decide) (lv 12) (lv 13) rfl) (le_valT le_eqR)) (vw_or1 (loT (vt_not (loT (vt_neU tk eu_Hanging rfl O_Hanging___eq__ N_Hanging hr (by decide) (lv 13) (lv 12) rfl) (le_valT le_neU))) le_notT))) le_orT)) le_orT)) (vss_one (sR (lo (ve_bl) le_c))) (loSs vss_nil ls_nil)) ls_if)))) ls_for) (vss_one (loS (vs_if (VW.t (loW (vw_or (tC (od_neX (Room.u66 hr)) (lo (ve_ownEq tk rfl O_Hanging___eq__ hr (by decide) (lv 13) (eX hr (lv 11) eI) rfl) le_owB) (lo (ve_cmp (od_eqX (Room.u66 hr)) (VE.b (VF.ve (loF (vf_me0 tk rfl G_Hanging_rows hr (by decide) (eX hr (lv 11) eI)) le_meth0))) (VE.b (lv 6)) (nomark _)) le_bin)) (vw_or1 (loT (vt_ownNe tk rfl O_Hanging___eq__ N_Hanging hr (by decide) (lv 13) (lo (ve_mkQ tk rfl KQ_Hanging hr (by decide) rfl (loAO (vao_cons (lv 6) (loAO vao_nil le_nil)) le_cons)) le_makeQ) rfl) (le_valT le_owNe)))) le_orT)) (vss_one (sR (lo (ve_bl) le_c))) (loSs vss_nil ls_nil)) ls_if)))))))))))))) (by decide))) (vss_one (sR (lo (ve_bl) le_c)))
end DL.K06
namespace DL
open PySem PySem.Spec PyProof.Rows L2
variable [TabC]
end DL
namespace DL
open PySem PySem.Spec PyProof.Rows L2
variable [TabC]
/-! the same thing, with lists and tuples as drawn -/
mutual
/-- so deep at most; no list too long; what may be asked whether it is a list -/
def lay : Nat → D → Prop
  | 0, _ => False
  | k + 1, .tup ds => ds.length ≤ 1000 ∧ layL k ds
  | k + 1, .lst ds => ds.length ≤ 1000 ∧ layL k ds
  | _ + 1, .str _ => True
  | _ + 1, .int _ => True
  | _ + 1, .non => True
  | _ + 1, .bl _ => True
  | _ + 1, .dic _ => True
  | _ + 1, _ => False
def layL : Nat → List D → Prop
  | _, [] => True
  | k, d :: ds => lay k d ∧ layL k ds
end
end DL
namespace DL
open PySem PySem.Spec PyProof.Rows L2
variable [TabC]
end DL
namespace DL
open PySem PySem.Spec PyProof.Rows L2
variable [TabC]
end DL
namespace DL
open PySem PySem.Spec PyProof.Rows L2
variable [TabC]
end DL
namespace DL
open PySem PySem.Spec PyProof.Rows L2
variable [TabC]
end DL
namespace DL
open PySem PySem.Spec PyProof.Rows L2
variable [TabC]
end DL
namespace DL
open PySem PySem.Spec PyProof.Rows L2
variable [TabC]
end DL
namespace DL
open PySem PySem.Spec PyProof.Rows L2
variable [TabC]
end DL
namespace DL
open PySem PySem.Spec PyProof.Rows L2
variable [TabC]
end DL
namespace DL
open PySem PySem.Spec PyProof.Rows L2
variable [TabC]
abbrev N_Hanging___eq__ : List Str := ["self", "other"]
def B_Hanging___eq__ : FS :=
  (fRet (fAnd (fIsC "Hanging" (fVar 1)) (fBin dEqX (fFld "Hanging" "anchors" (fVar 0)) (fFld "Hanging" "anchors" (fVar 1)))))
def f_Hanging___eq__ : FFn := runB N_Hanging___eq__ B_Hanging___eq__
end DL
namespace DL
/-! ### rounds of rows: the worths are pushed down, pass by pass; a worth may be lacking -/
section
variable {α : Type} [DecidableEq α]
abbrev Edge (α : Type) := α × α × Int
/-! what goes with each step -/
/-! ### back along the rows that moved last -/
end
end DL
namespace DL
section
variable {α : Type} [DecidableEq α]
/-! ### rows that lead from one to another -/
/-! the way back -/
/-- the least number at which something holds -/
theorem least {P : Nat → Prop} : ∀ n, P n → ∃ m, m ≤ n ∧ P m ∧ ∀ i, i < m → ¬ P i
  | 0, h => ⟨0, Nat.le_refl _, h, fun _ z => nomatch z⟩
  | n + 1, h => by
    by_cases z : ∃ i, i ≤ n ∧ P i
    · obtain ⟨i, hi, hp⟩ := z
      obtain ⟨m, h1, h2, h3⟩ := least i hp
      exact ⟨m, by omega, h2, h3⟩
    · exact ⟨n + 1, Nat.le_refl _, h, fun i hi hp => z ⟨i, by omega, hp⟩⟩
termination_by n => n
/-! ### all worths known: rows are kept, or there is a ring -/
/-! ### from one origin -/
inductive Walk (rows : List (Edge α)) (o : α) : α → Int → Prop
  | nil : Walk rows o o 0
  | step {u v : α} {x c : Int} : Walk rows o u x → (u, v, c) ∈ rows → Walk rows o v (x + c)
end
end DL
namespace DL
open PySem PySem.Spec PyProof.Rows L2
variable [TabC]
/-! ### dicts from things to data, whatever they are kept in -/
section
variable {α : Type} [DecidableEq α]
def putA (l : List (α × D)) (x : α) (d : D) : List (α × D) := if x ∈ l.map (·.1) then l.map (fun p => if p.1 = x then (p.1, d) else p) else l ++ [(x, d)]
structure Ops (α : Type) [DecidableEq α] where
  key : α → D
  ok : α → Prop
  enc : List (α × D) → D
  idx : D → D → Option D
  inn : D → D → Option D
  nin : D → D → Option D
  put : Nat → FM D → FM D → FS
  em : FM D
  cp : FM D
  ln : FM D
  disp : FM D
  look : ∀ {l : List (α × D)} {x : α}, ok x → (∀ p ∈ l, ok p.1) → idx (enc l) (key x) = l.lookup x
  isIn : ∀ {l : List (α × D)} {x : α}, ok x → (∀ p ∈ l, ok p.1) → inn (key x) (enc l) = some (.bl (l.lookup x).isSome)
  notIn : ∀ {l : List (α × D)} {x : α}, ok x → (∀ p ∈ l, ok p.1) → nin (key x) (enc l) = some (.bl (!(l.lookup x).isSome))
  puts : ∀ {i : Nat} {s : Ev} {l : List (α × D)} {k a : FM D} {x : α} {d : D}, s[i]? = some (some (enc l)) → a s = .ok d → k s = .ok (key x) → ok x → (∀ p ∈ l, ok p.1) → l.length < LIM → put i k a s = .nx (s.set i (some (enc (putA l x d))))
  ne : ∀ {x y : α}, ok x → ok y → dNe (key x) (key y) = some (.bl (!decide (x = y)))
  isn : ∀ x : α, dIs (key x) .non = some (.bl false)
  ems : ∀ s, em s = .ok (enc [])
  cps : ∀ {s : Ev} {l : List α}, s[1]? = some (some (enc (l.map fun x => (x, .bl true)))) → l.Nodup → (∀ x ∈ l, ok x) → l.length < LIM → 12 < s.length → cp s = .ok (enc (l.map fun x => (x, .int 0)))
  lns : ∀ {s : Ev} {l : List (α × D)}, s[1]? = some (some (enc l)) → l.length < LIM → ln s = .ok (.int l.length)
  disps : ∀ {s : Ev} {x : α}, s[1]? = some (some (key x)) → ok x → disp s = .ok (enc [(x, .int 0)])
/-! the program's text, over any dicts -/
variable (O : Ops α)
def G1 : FS := (fSeq (O.put 1 (fVar 4) (fC (.bl true))) (O.put 1 (fVar 5) (fC (.bl true))))
def H1 : FS := (fIfS (fAndT (fBinT O.inn (fVar 4) (fVar 2)) (fOrT (fBinT O.nin (fVar 5) (fVar 2)) (fBinT dLt (fBin dAdd (fBin O.idx (fVar 2) (fVar 4)) (fVar 6)) (fBin O.idx (fVar 2) (fVar 5))))) (fSeq (O.put 2 (fVar 5) (fBin dAdd (fBin O.idx (fVar 2) (fVar 4)) (fVar 6))) (fSet 3 (fC (.bl true)))) fNilS)
def H2 : FS := (fSeq (fSet 3 (fC (.bl false))) (fFor (fIter (fVar 0)) (fgTp (fgsCons (fgNm 4) (fgsCons (fgNm 5) (fgsCons (fgNm 6) fgsNil)))) (H1 O)))
variable {O}
end
end DL
namespace DL
open PySem PySem.Spec PyProof.Rows L2
variable [TabC]
section
variable {α : Type} [DecidableEq α] {O : Ops α}
end
end DL
namespace DL
open PySem PySem.Spec PyProof.Rows L2
variable [TabC]
section
variable {α : Type} [DecidableEq α] {O : Ops α}
/-! ### bounds -/
def ends (rows : List (Edge α)) : List α := rows.flatMap fun r => [r.1, r.2.1]
end
end DL
namespace DL
open PySem PySem.Spec PyProof.Rows L2
variable [TabC]
/-! ### texts as keys -/
/-- rows between texts -/
abbrev eD (r : Edge Str) : D := .tup [.str r.1, .str r.2.1, .int r.2.2]
end DL
namespace DL
open PySem PySem.Spec PyProof.Rows L2
variable [TabC]
section
variable {bs : Dis} {ws : List Wi} {ss : List (List Str)} {r1 r2 : Row} {k1 k2 : Str → Nat}
end
/-! ### by how much: plain sums -/
section
variable {bs : Dis} {r1 r2 : Row} {k1 k2 : Str → Nat}
end
end DL
namespace DL
open PySem PySem.Spec PyProof.Rows L2
variable [TabC]
/-! ### drawn hangings -/
theorem hung_split : ∀ {l : Anc} {up : List Str}, Hung l up → ∀ x a, (x, a) ∈ l → ∃ pre post, l = pre ++ (x, a) :: post ∧ (a = "clock" ∨ a ∈ up ++ keys pre)
  | (y, b) :: l, up, h, x, a, hm => by
    rcases List.mem_cons.mp hm with z | z
    · cases z
      exact ⟨[], l, rfl, by rw [keys, List.map_nil, List.append_nil]; exact h.1⟩
    · obtain ⟨pre, post, e, q⟩ := hung_split h.2 x a z
      refine ⟨(y, b) :: pre, post, by rw [e]; rfl, q.imp id fun w => ?_⟩
      rw [List.append_assoc] at w
      exact w
theorem idx_pre {pre : List Str} {x : Str} {post : List Str} (h : x ∉ pre) : (pre ++ x :: post).idxOf x = pre.length := by
  rw [List.idxOf_append, if_neg h, List.idxOf_cons_self]
  simp
theorem idx_lt {pre : List Str} {a : Str} {post : List Str} (h : a ∈ pre) : (pre ++ post).idxOf a < pre.length := by
  rw [List.idxOf_append, if_pos h]
  exact List.idxOf_lt_length_of_mem h
theorem hung_acy {l : Anc} (h : Hung l []) (hn : (keys l).Nodup) (hg : ∀ x ∈ keys l, Good x) (hl : l.length ≤ 100) : Acy l (fun x => (keys l).idxOf x) := by
  refine ⟨hn, hg, fun x a e => ?_, fun x hx => ?_, hl⟩
  · obtain ⟨pre, post, el, q⟩ := hung_split h x a (look_some e)
    refine q.imp id fun q => ?_
    rw [List.nil_append] at q
    have ek : keys l = keys pre ++ x :: keys post := by rw [el, keys, List.map_append]; rfl
    refine ⟨by rw [ek]; exact List.mem_append_left _ q, ?_⟩
    have hx : x ∉ keys pre := fun z => by
      rw [ek] at hn
      exact (List.nodup_append.mp hn).2.2 _ z _ List.mem_cons_self rfl
    show (keys l).idxOf a < (keys l).idxOf x
    rw [ek, idx_pre hx]
    exact idx_lt q
  · have := List.idxOf_lt_length_of_mem hx
    rw [List.length_map] at this
    exact this
/-! ### one row otherwise -/
end DL
namespace DL
open PySem PySem.Spec PyProof.Rows L2
variable [TabC]
end DL
namespace DL
open PySem PySem.Spec PyProof.Rows L2
variable [TabC]
/-! ### moments as lists or tuples -/
def Mo.dl (tp : Bool) : Mo → D
  | .clock => .str "clock"
  | .start x => rowD tp [.str "start", .str x]
  | .done x => rowD tp [.str "done", .str x]
/-! ### the minute of a moment -/
def mn (rs : Row) (t : Tm) : Mo → Int
  | .clock => 0
  | .start x => st rs t x
  | .done x => st rs t x + get t x
section
variable {bs : Dis} {rs : Row} {rk : Str → Nat} {one other : Mo}
end
/-! ### the minutes of all times -/
end DL
namespace DL
open PySem PySem.Spec PyProof.Rows L2
variable [TabC]
/-! ### sorted or not -/
theorem ofM {f : FFn} {ds : List D} {d : D} {n : Nat} {Q : D → Nat → Prop} {xq : XQ} (h : f ds = .ok d) (q : Q d n) : (FSp.of f).run ds n Q xq := by
  show (f ds).wp xq n Q
  rw [h]
  exact q
/-! ### dicts of numbers, compared -/
/-! ### defs that tell something new -/
theorem seqFN {f g : FS} {s s' : Ev} {o : SO} (h : f s = .nx s') (h2 : g s' = o) : fSeqF f g s = o := by
  unfold fSeqF
  rw [h]
  exact h2
theorem runF_rt {N : List Str} {b : FS} {ds : List D} {d : D} (h : b (startD N ds) = .rt d) : runF N b ds = .ok d := by
  unfold runF
  rw [h]
end DL
namespace DL
open PySem PySem.Spec PyProof.Rows L2
variable [TabC]
/-! ### the rows of a hanging, and their words -/
abbrev Wd := Str × Key
section
variable {tp : Bool} {a : Wd} {wd rows : List D}
end
/-! ### wishes and orders as rows -/
section
variable {bs : Dis} {l : Anc} {rk : Str → Nat}
end
end DL
namespace DL
open PySem PySem.Spec PyProof.Rows L2
variable [TabC]
section
variable {bs : Dis} {l : Anc} {rk : Str → Nat}
variable {ws : List Wi} {os : List (Str × Str)} {ss : List (List Str)}
end
end DL
namespace DL
open PySem PySem.Spec PyProof.Rows L2
variable [TabC]
/-! ### the law's own numbers -/
end DL
namespace DL
open PySem PySem.Spec PyProof.Rows L2
variable [TabC]
/-! ### rows of a hanging: a ring, or least and greatest sums -/
def turned (rows : List (Edge Str)) : List (Edge Str) := rows.map fun r => (r.2.1, r.1, r.2.2)
section
variable {bs : Dis} {l : Anc} {rk : Str → Nat} {ws : List Wi} {os : List (Str × Str)} {ss : List (List Str)} {oe : D}
/-! books with some sums -/
end
end DL
namespace DL
open PySem PySem.Spec PyProof.Rows L2
variable [TabC]
end DL
namespace DL
open PySem PySem.Spec PyProof.Rows L2
variable [TabC]
/-! ### worst times; whether all wishes are kept -/
section
variable {bs : Dis} {ws : List Wi} {rs : Row} {rk : Str → Nat}
/-- a book keeps a wish in all times -/
def keeps (bs : Dis) (rs : Row) (w : Wi) : Bool := decide (behd bs rs w.one w.other ≤ w.most)
end
/-! ### what a book's sums keep -/
section
variable {bs : Dis} {rs : Row} {l : Anc} {rk : Str → Nat} {ws : List Wi} {os : List (Str × Str)}
/-! the rows by their places -/
end
end DL
namespace DL
open PySem PySem.Spec PyProof.Rows L2
variable [TabC]
theorem addL {xs ys : List D} (h : xs.length + ys.length ≤ 1000) : dAdd (.lst xs) (.lst ys) = some (.lst (xs ++ ys)) := by
  show (if xs.length + ys.length ≤ LIM then some (D.lst (xs ++ ys)) else none) = _
  rw [if_pos (by unfold LIM; omega)]
theorem slE {x : FM D} {lo hi : FM (Option Int)} {s : Ev} {d r : D} {i j : Option Int} (h1 : x s = .ok d) (h2 : lo s = .ok i) (h3 : hi s = .ok j) (h4 : dSl d i j = some r) : fSl x lo hi s = .ok r := by
  unfold fSl
  rw [h1]
  show (lo s).bind _ = _
  rw [h2]
  show (hi s).bind _ = _
  rw [h3]
  show ofO _ = _
  rw [h4]
  rfl
end DL
namespace DL
open PySem PySem.Spec PyProof.Rows L2
variable [TabC]
/-! ### books by their own operators -/
namespace BO
theorem owBE {C : Str} {f : FFn} {o a : FM D} {s : Ev} {fs gs : List (Str × D)} {r : Res D} (h1 : o s = .ok (.obj C fs)) (h2 : a s = .ok (.obj C gs)) (h3 : f [.obj C fs, .obj C gs] = r) : fOwB C f o a s = r := by
  unfold fOwB
  rw [h1]
  show ((a s).bind fun y => _) = _
  rw [h2]
  show (if C = C ∧ C = C then _ else _) = _
  rw [if_pos ⟨rfl, rfl⟩]
  exact h3
theorem owNeE {C : Str} {f : FFn} {o a : FM D} {s : Ev} {fs gs : List (Str × D)} {b : Bool} (h1 : o s = .ok (.obj C fs)) (h2 : a s = .ok (.obj C gs)) (h3 : f [.obj C fs, .obj C gs] = .ok (.bl b)) : fOwNe C f o a s = .ok (.bl (!b)) := by
  unfold fOwNe
  rw [h1]
  show ((a s).bind fun y => _) = _
  rw [h2]
  show (if C = C ∧ C = C then _ else _) = _
  rw [if_pos ⟨rfl, rfl⟩, h3]
  rfl
/-- dicts of texts side by side -/
theorem eqX_map {α : Type} [DecidableEq α] {f : α → D} (hf : ∀ a b, pyEq (f a) (f b) = decide (a = b)) {xs ys : List (Str × α)} (hx : ∀ p ∈ xs, okD (f p.2) = true) (hy : ∀ p ∈ ys, okD (f p.2) = true) :
    dEqX (.dic (mapD f xs)) (.dic (mapD f ys)) = some (.bl (xs.length == ys.length && xs.all fun p => decide (ys.lookup p.1 = some p.2))) := by
  have h1 : okK (mapD f xs) = true := List.all_eq_true.mpr fun q hq => by
    obtain ⟨p, hp, rfl⟩ := List.mem_map.mp hq
    exact hx p hp
  have h2 : okK (mapD f ys) = true := List.all_eq_true.mpr fun q hq => by
    obtain ⟨p, hp, rfl⟩ := List.mem_map.mp hq
    exact hy p hp
  have h3 : eqK (mapD f xs) (mapD f ys) = xs.all fun p => decide (ys.lookup p.1 = some p.2) := by
    unfold eqK mapD
    rw [List.all_map]
    congr 1
    funext p
    show (match lookK (mapD f ys) (.inr p.1) with | some d => pyEq (f p.2) d | none => false) = _
    rw [lookK_map]
    cases ys.lookup p.1 with
    | none => rfl
    | some b =>
      show pyEq (f p.2) (f b) = decide (some b = some p.2)
      rw [hf]
      by_cases e : p.2 = b
      · subst e; simp
      · have e2 : ¬ b = p.2 := fun z => e z.symm
        simp [e, e2]
  show (if (okK (mapD f xs) && okK (mapD f ys)) = true then some (D.bl ((mapD f xs).length == (mapD f ys).length && eqK (mapD f xs) (mapD f ys))) else none) = _
  rw [h1, h2, h3]
  unfold mapD
  rw [List.length_map, List.length_map]
  rfl
theorem same_look {α : Type} [DecidableEq α] {xs : List (Str × α)} (hn : (keys xs).Nodup) : (xs.length == xs.length && xs.all fun p => decide (xs.lookup p.1 = some p.2)) = true := by
  rw [Bool.and_eq_true]
  refine ⟨by simp, List.all_eq_true.mpr fun p hp => ?_⟩
  rw [look_of hn (show (p.1, p.2) ∈ xs from hp)]
  simp
theorem pyEq_s (a b : Str) : pyEq (.str a) (.str b) = decide (a = b) := by
  rw [pyEq_str]
  by_cases h : a = b <;> simp [h]
section
variable {rs : Row} {rk : Str → Nat} {l : Anc}
theorem anc_ok (A : Acy l rk) : ∀ p ∈ l, sOk p.2 := fun p hp => by
  rcases A.up p.1 p.2 (look_of A.nd hp) with z | ⟨z, _⟩
  · rw [z]; exact clock_ok
  · exact (A.good _ z).ok
/-! & and | -/
theorem sortK_sortK {α : Type} [Inhabited α] (l : List (Str × α)) : sortK (sortK l) = sortK l := by
  show (rise (keys (sortK l))).map (fun x => (x, get (sortK l) x)) = (rise (keys l)).map fun x => (x, get l x)
  rw [keys_sort, rise_rise]
  exact List.map_congr_left fun x _ => by rw [get_sort]
end
end BO
end DL
namespace DL.K06
open PySem PySem.Spec PyProof.Rows L2 MD DL.BO
variable [TabC]
theorem v_hangingQ {l : Anc} {rk : Str → Nat} (A : Acy l rk) : f_Hanging___init__ [.dic (mapD .str l)] = .ok (hangD (sortK l)) := by
  have hl := A.len
  obtain ⟨s', e, x2, x3, rfl⟩ := for_inv (g := fgTp (fgsCons (fgNm 2) (fgsCons (fgNm 3) fgsNil))) (b := b_Hanging___init___1) (fun s => ∃ x2 x3, s = [some (.obj "Hanging" []), some (.dic (mapD .str l)), x2, x3]) (itemsD (mapD .str l)) [some (.obj "Hanging" []), some (.dic (mapD .str l)), none, none] ⟨_, _, rfl⟩ (fun d hd s ⟨x2, x3, hs⟩ => by
    subst hs
    rw [items_map] at hd
    obtain ⟨p, hp, rfl⟩ := List.mem_map.mp hd
    have hk : p.1 ∈ keys l := List.mem_map.mpr ⟨p, hp, rfl⟩
    refine ⟨_, rfl, _, ifsF (orTF (notTE (valE (callE (ds := [.str p.1]) rfl rfl (A.good _ hk).nm))) (notTE (valE (callE (ds := [.str p.2, .dic (mapD .str l)]) rfl rfl (v_is_anchor A.good ?_))))) rfl, _, _, rfl⟩
    exact (A.up p.1 p.2 (look_of A.nd hp)).imp id (·.1))
  have ed : fDc (fIter (fCall 1 f_rising [] (fCons (fBlt dList (fCons (fVar 1) fNil)) fNil))) [2] (fgNm 2) fYes (fVar 2) (fBin dIdx (fVar 1) (fVar 2)) [some (.obj "Hanging" []), some (.dic (mapD .str l)), x2, x3] = .ok (.dic (mapD .str (sortK l))) := by
    refine dcE (ds := (rise (keys l)).map .str) (iterE (callE (ds := [txs (keys l)]) (consE (bltE rfl (dList_map _ _)) rfl) rfl (v_rising (by rw [List.length_map]; omega))) rfl) (by rw [List.length_map, rise_len, List.length_map]; unfold LIM; omega) ?_
    refine dc_map D.str id (fun x => get l x) D.str (rise (keys l)) [] (by rw [List.map_nil, List.nil_append, List.map_id]; exact (rise_perm _).nodup_iff.mpr A.nd) fun d hd => ⟨_, rfl, rfl, binE rfl rfl (by rw [dIdx_map, look_get (mem_rise.mp hd)]; rfl)⟩
  exact runI_nx (seqN (forDE (kvs := mapD .str l) rfl e) (seqN (dropE (callE (ds := [.dic (mapD .str l)]) rfl rfl (v_check_rounds A))) (fldQE ed rfl))) rfl
theorem v_hrows {t : Anc} : f_Hanging_rows [hangD t] = .ok (.dic (mapD .str t)) := runF_rt (retE (bltE (consE (fldE rfl rfl) rfl) rfl))
theorem v_hdishes {t : Anc} : f_Hanging_dishes [hangD t] = .ok (txs (keys t)) := runF_rt (retE (bltE (consE (fldE rfl rfl) rfl) (dList_map _ _)))
theorem ks_str : ∀ t : Anc, ksD (mapD .str t) = some (t.map fun p => .text p.2)
  | [] => rfl
  | p :: t => by
    show ((nkD (D.str p.2)).bind fun k => (ksD (mapD .str t)).map (k :: ·)) = _
    rw [ks_str t]
    rfl
theorem val_in {t : Anc} {x : Str} : dValInD false (.str x) (.dic (mapD .str t)) = some (.bl (decide (x ∈ t.map (·.2)))) := by
  show ((nkD (D.str x)).bind fun k => (ksD (mapD .str t)).map fun ks => D.bl (if false = true then !decide (k ∈ ks) else decide (k ∈ ks))) = _
  rw [ks_str]
  show some (D.bl (decide (NestedKey.text x ∈ t.map fun p => NestedKey.text p.2))) = _
  have : (NestedKey.text x ∈ t.map fun p => NestedKey.text p.2) ↔ x ∈ t.map (·.2) := by
    rw [List.mem_map, List.mem_map]
    constructor
    · rintro ⟨p, hp, e⟩
      exact ⟨p, hp, NestedKey.text.inj e⟩
    · rintro ⟨p, hp, e⟩
      exact ⟨p, hp, by rw [e]⟩
  rw [decide_eq_decide.mpr this]
def lks (t : Anc) (ks : List Str) : List Str := ks.filter fun x => decide (x ∈ t.map (·.2))
theorem v_hlooks {t : Anc} (hl : t.length ≤ 100) : f_Hanging_looks [hangD t] = .ok (txs (lks t (keys t))) := by
  refine runF_rt (retE (lcDE (kvs := mapD .str t) rfl (by rw [keys_map, List.length_map, List.length_map]; unfold LIM; omega) ?_))
  rw [keys_map]
  exact lc_filter (g := fgNm 1) (t := fVal (fBin (dValInD false) (fVar 1) (fFld "Hanging" "anchors" (fVar 0)))) (e := fVar 1) (s0 := hideL (startD N_Hanging_looks [hangD t]) [1]) D.str (fun x => decide (x ∈ t.map (·.2))) D.str (keys t) (fun x _ => ⟨_, rfl, valE (binE rfl (fldE rfl rfl) val_in), fun _ => rfl⟩)
theorem vals_sort {l : Anc} (hn : (keys l).Nodup) (x : Str) : x ∈ (sortK l).map (·.2) ↔ x ∈ l.map (·.2) := by
  rw [List.mem_map, List.mem_map]
  constructor
  · rintro ⟨p, hp, e⟩
    exact ⟨p, mem_sort hn hp, e⟩
  · rintro ⟨p, hp, rfl⟩
    have hk : p.1 ∈ keys l := List.mem_map.mpr ⟨p, hp, rfl⟩
    exact ⟨(p.1, get l p.1), List.mem_map.mpr ⟨p.1, mem_rise.mpr hk, rfl⟩, get_of (look_of hn hp)⟩
theorem lks_sort {l : Anc} (hn : (keys l).Nodup) (ks : List Str) : lks (sortK l) ks = lks l ks := by
  unfold lks
  congr 1
  funext x
  exact decide_eq_decide.mpr (vals_sort hn x)
def NoDish (d : D) : XD := ("NoDish", [("name", d)])
theorem check_ok {α : Type} {f : α → D} {m : List (Str × α)} {x : Str} (h : x ∈ keys m) : f_check_dish [.str x, .dic (mapD f m)] = .ok .non := runB_nx (ifsF (notTE (k := true) (valE (callE (ds := [.str x, .dic (mapD f m)]) rfl rfl (v_is_among h)))) rfl)
theorem check_no {d c : D} (h : f_is_among [d, c] = .ok (.bl false)) : f_check_dish [d, c] = .ex (NoDish d) := runB_ex (ifsT (notTE (k := false) (valE (callE (ds := [d, c]) rfl rfl h))) rfl)
theorem revE {a : FM D} {s : Ev} {xs : List D} (h : a s = .ok (.lst xs)) : fRev a s = .ok (.lst xs.reverse) := by
  unfold fRev
  rw [h]
  rfl
theorem v_hway {t : Anc} {rk : Str → Nat} (A : Acy t rk) {x : Str} (hx : x ∈ keys t) : f_Hanging_way [hangD t, .str x] = .ok (txs (chain t x).reverse) := by
  refine runF_rt (seqFN (dropE (callE (ds := [.str x, .dic (mapD .str t)]) (consE rfl (consE (fldE rfl rfl) rfl)) rfl (check_ok hx))) (retE ?_))
  exact (revE (xs := (chain t x).map .str) (callE (ds := [.dic (mapD .str t), .str x]) (consE (fldE rfl rfl) (consE rfl rfl)) rfl (v_way_up A hx))).trans (by rw [← List.map_reverse])
theorem v_hway_no {t : Anc} {d : D} (h : f_is_among [d, .dic (mapD .str t)] = .ok (.bl false)) : f_Hanging_way [hangD t, d] = .ex (NoDish d) := by
  have e : fDrop (fCall 2 f_check_dish [] (fCons (fVar 1) (fCons (fFld "Hanging" "anchors" (fVar 0)) fNil))) [some (hangD t), some d] = .ex (NoDish d) := by
    have e0 : fCall 2 f_check_dish [] (fCons (fVar 1) (fCons (fFld "Hanging" "anchors" (fVar 0)) fNil)) [some (hangD t), some d] = .ex (NoDish d) := callE (ds := [d, .dic (mapD .str t)]) (consE rfl (consE (fldE rfl rfl) rfl)) rfl (check_no h)
    unfold fDrop
    rw [e0]
    rfl
  show runF _ _ _ = _
  unfold runF B_Hanging_way fSeqF
  show (match (match fDrop _ [some (hangD t), some d] with | .nx s' => _ | .ex x => SO.ex x | _ => .bad) with | .rt d => Res.ok d | .ex x => .ex x | _ => .bad) = _
  rw [e]
theorem hC {t : Anc} : isC "Hanging" (hangD t) = true := by
  show decide (("Hanging" : Str) = "Hanging") = true
  exact decide_eq_true rfl
theorem hO {t : Anc} : othD "Hanging" (hangD t) = true := by
  show decide (("Hanging" : Str) = "Hanging") = true
  exact decide_eq_true rfl
theorem v_heq {l l2 : Anc} {rk rk2 : Str → Nat} (A : Acy l rk) (A2 : Acy l2 rk2) : f_Hanging___eq__ [hangD l, hangD l2] = .ok (.bl (l.length == l2.length && l.all fun p => decide (l2.lookup p.1 = some p.2))) :=
  runB_rt (retE (andT ((isUE (C := "Hanging") (d := hangD l2) rfl hO).trans (by rw [hC])) (binE (x := .dic (mapD .str l)) (y := .dic (mapD .str l2)) (fldE rfl rfl) (fldE rfl rfl) (eqX_map pyEq_s (fun p hp => okD_str (anc_ok A p hp)) fun p hp => okD_str (anc_ok A2 p hp)))))
theorem v_heq_same {l : Anc} {rk : Str → Nat} (A : Acy l rk) : f_Hanging___eq__ [hangD l, hangD l] = .ok (.bl true) := by rw [v_heq A A, same_look A.nd]
theorem eq_non {t : Anc} {d : D} (h : d = .non ∨ ∃ kvs, d = .dic kvs) : f_Hanging___eq__ [hangD t, d] = .ok (.bl false) := by
  rcases h with rfl | ⟨kvs, rfl⟩
  · exact runB_rt (retE (andF (isUE (C := "Hanging") (d := .non) rfl rfl)))
  · exact runB_rt (retE (andF (isUE (C := "Hanging") (d := .dic kvs) rfl rfl)))
end DL.K06
namespace DL.K06
open PySem PySem.Spec PyProof.Rows L2 DL.BO
variable [TabC]
theorem lway_go {l : Anc} {rk : Str → Nat} (A : Acy l rk) {x0 : Option D} : ∀ (k fuel : Nat) (here : Str) (found : List Str), k ≤ fuel → (here ∈ keys l → rk here < k) → (here = "clock" ∨ here ∈ keys l) → found.length + k ≤ 500 →
    fWhileN (fBinT dNe (fVar 3) (fC (.str "clock"))) b__law_way_1 (fuel + 1) [some (.dic (mapD .str l)), x0, some (txs found), some (.str here)] = .nx [some (.dic (mapD .str l)), x0, some (txs ((if here = "clock" then [] else here :: chain l here).reverse ++ found)), some (.str "clock")] := by
  intro k
  induction k with
  | zero =>
    intro fuel here found hf hk hh hl
    have e : here = "clock" := hh.resolve_right fun z => by have := hk z; omega
    subst e
    rw [fWhileN, binTE (x := .str "clock") (y := .str "clock") rfl rfl (dNe_str clock_ok clock_ok)]
    rw [if_pos rfl, List.reverse_nil, List.nil_append]
    rfl
  | succ k ih =>
    intro fuel here found hf hk hh hl
    by_cases e : here = "clock"
    · subst e
      rw [fWhileN, binTE (x := .str "clock") (y := .str "clock") rfl rfl (dNe_str clock_ok clock_ok)]
      rw [if_pos rfl, List.reverse_nil, List.nil_append]
      rfl
    · have hin : here ∈ keys l := hh.resolve_left e
      have hr := hk hin
      have ho : sOk here := (A.good here hin).ok
      obtain ⟨fu, rfl⟩ : ∃ fu, fuel = fu + 1 := ⟨fuel - 1, by omega⟩
      have t1 : fBinT dNe (fVar 3) (fC (.str "clock")) [some (.dic (mapD .str l)), x0, some (txs found), some (.str here)] = .ok true := by
        refine binTE (x := .str here) (y := .str "clock") rfl rfl ?_
        rw [dNe_str ho clock_ok]; simp [e]
      obtain ⟨a, ea⟩ := look_mem hin
      have b1 : b__law_way_1 [some (.dic (mapD .str l)), x0, some (txs found), some (.str here)] = .nx [some (.dic (mapD .str l)), x0, some (txs (here :: found)), some (.str a)] := by
        exact parE (d := txs (here :: found)) (d' := .str a) (binE (lstE (consE rfl rfl) (show 1 ≤ 1000 by decide)) rfl (addL (by rw [List.length_map]; show 1 + _ ≤ _; omega))) (binE rfl rfl (by rw [dIdx_map, ea]; rfl))
      have ha := A.up here a ea
      have eh := ih fu a (here :: found) (by omega) (fun z => by
        rcases ha with y | y
        · subst y; exact absurd rfl (A.good _ z).nc
        · omega) (ha.imp id (·.1)) (by rw [List.length_cons]; omega)
      rw [fWhileN, t1]
      show (match b__law_way_1 _ with | .nx s2 => fWhileN _ _ (fu + 1) s2 | .ct s2 => fWhileN _ _ (fu + 1) s2 | .bk s2 => .nx s2 | o => o) = _
      rw [b1]
      show fWhileN _ _ (fu + 1) _ = _
      rw [eh, if_neg e]
      by_cases ca : a = "clock"
      · subst ca
        rw [if_pos rfl, chain_clock A ea]
        rfl
      · rw [if_neg ca, chain_up A ea ca, List.reverse_cons (a := here), List.append_assoc]
        rfl
theorem v_lway {l : Anc} {rk : Str → Nat} (A : Acy l rk) {x : Str} (hx : x ∈ keys l) : f__law_way [.dic (mapD .str l), .str x] = .ok (txs (chain l x).reverse) := by
  obtain ⟨a, ea⟩ := look_mem hx
  have ha := A.up x a ea
  have hl := A.len
  have e := lway_go A (x0 := some (.str x)) (l.length) 999999 a [] (by omega) (fun z => A.bd a z) (ha.imp id (·.1)) (by simp; omega)
  refine runB_rt (seqN (s' := [some (.dic (mapD .str l)), some (.str x), some (txs []), some (.str a)]) ?_ (seqN (s' := _) e ((retE rfl).trans ?_)))
  · exact parE (d := txs []) (d' := .str a) rfl (binE rfl rfl (by rw [dIdx_map, ea]; rfl))
  · show SO.rt (txs (_ ++ [])) = _
    rw [List.append_nil]
    by_cases ca : a = "clock"
    · subst ca
      rw [if_pos rfl, chain_clock A ea]
    · rw [if_neg ca, chain_up A ea ca]
theorem v_with {l : Anc} {x a : Str} (h : x ∉ keys l) (hl : l.length ≤ 100) : f__law_with [.dic (mapD .str l), .str x, .str a] = .ok (.dic (mapD .str (l ++ [(x, a)]))) := by
  refine runB_rt (seqN (setFE (show 3 < 4 by decide) rfl) (seqN (dputE (kk := .inr x) (kvs := mapD .str l) rfl rfl rfl rfl (by unfold mapD; rw [List.length_map]; exact lim_of (by omega))) (retE ?_)))
  rw [put_new (f := D.str) h]
  rfl
theorem same6 {d : D} (h : Pl 5 d) : f__law_same [d, d] = .ok (.bl true) := DL.v_same 5 d h
theorem pl_str {k : Nat} {x : Str} (h : sOk x) : Pl k (.str x) := by cases k <;> exact h
theorem pl_strs {k : Nat} {xs : List Str} (hl : xs.length ≤ 1000) (h : ∀ x ∈ xs, sOk x) : Pl (k + 1) (.lst (xs.map .str)) := ⟨by rw [List.length_map]; exact hl, fun d hd => by
  obtain ⟨x, hx, rfl⟩ := List.mem_map.mp hd
  exact pl_str (h x hx)⟩
theorem same_dictS {l : Anc} (hn : (keys l).Nodup) (hk : ∀ x ∈ keys l, sOk x) (hl : l.length ≤ 100) (hp : ∀ p ∈ l, sOk p.2) : f__law_same_dict [.dic (mapD .str l), .dic (mapD .str l)] = .ok (.bl true) := by
  have ene : dNe (txs (keys l)) (txs (keys l)) = some (.bl false) := by
    rw [dNe_ok (ok_strs hk) (ok_strs hk)]
    have : pyEq (txs (keys l)) (txs (keys l)) = true := SeqAt.eqv_refl _ (okD_lay (ok_strs hk))
    rw [this]
    rfl
  have e0 : fLcL (fgNm 2) fYes (fCall 2 f__law_same [] (fCons (fBin dIdx (fVar 0) (fVar 2)) (fCons (fBin dIdx (fVar 1) (fVar 2)) fNil))) (hideL [some (.dic (mapD .str l)), some (.dic (mapD .str l)), none] [2]) (keysD (mapD .str l)) = .ok ((keys l).map fun _ => D.bl true) := by
    rw [keys_map]
    refine lc_map D.str (fun _ => .bl true) (keys l) fun x hx => ⟨_, rfl, ?_⟩
    obtain ⟨a, ha⟩ := look_mem hx
    have ed : dIdx (.dic (mapD .str l)) (.str x) = some (.str a) := by rw [dIdx_map, ha]; rfl
    exact callE (ds := [.str a, .str a]) (consE (binE rfl rfl ed) (consE (binE rfl rfl ed) rfl)) rfl (same6 (pl_str (hp _ (look_some ha))))
  refine runB_rt (seqN (ifsF (orTF (notTE (k := true) (valE rfl)) (binTE (bltE (consE rfl rfl) (dList_map D.str l)) (bltE (consE rfl rfl) (dList_map D.str l)) ene)) rfl) (retE (bltE (consE (lcDE (kvs := mapD .str l) rfl (by rw [keys_map, List.length_map, List.length_map]; unfold LIM; omega) e0) rfl) ?_)))
  exact all_true _
end DL.K06
namespace DL.K06
open PySem PySem.Spec PyProof.Rows L2 DL.BO
variable [TabC]
theorem step_ok {t : FM D} {f : FS} {s : Ev} (h : t s = .ok (.bl true)) : fIfS (fNotT (fVal t)) f fNilS s = .nx s := ifsF (notTE (k := true) (valE h)) rfl
theorem triedX {s : Ev} {x : XD} {d : D} {ok : TR.OKF} {hs : HS} {O : List Nat} {f : FM D} {hv : TR.HV} (h : f (hideL s O) = .ex x) (h1 : hpick hs x.1 = some hv) (h2 : hvD hv x.2 = some d) : fTried ok hs O f s = .ok d := by
  unfold fTried
  rw [h]
  show ofO ((hpick hs x.1).bind fun hv => hvD hv x.2) = _
  rw [h1]
  show ofO (hvD hv x.2) = _
  rw [h2]
  rfl
theorem strsB_txs (xs : List Str) : strsB (xs.map .str) = true := by
  unfold strsB
  rw [List.all_map, List.all_eq_true]
  exact fun _ _ => rfl
theorem neX_same {xs : List Str} (h : ∀ x ∈ xs, sOk x) : dNeX (txs xs) (txs xs) = some (.bl false) := by
  show dNe (txs xs) (txs xs) = _
  rw [dNe_ok (ok_strs h) (ok_strs h)]
  have : pyEq (txs xs) (txs xs) = true := SeqAt.eqv_refl _ (okD_lay (ok_strs h))
  rw [this]
  rfl
theorem self_get {α : Type} [Inhabited α] {m : List (Str × α)} (hn : (keys m).Nodup) : (keys m).map (fun x => (x, get m x)) = m := by
  unfold keys
  rw [List.map_map]
  refine (List.map_congr_left fun p hp => ?_).trans (List.map_id' _)
  exact Prod.ext rfl (get_of (look_of hn (show (p.1, p.2) ∈ m from hp)))
theorem same_sorted {m1 m2 : Anc} (h1 : (keys m1).Nodup) (hk : keys m1 = keys m2) : (m1.length == m2.length && m1.all fun p => decide (m2.lookup p.1 = some p.2)) = decide (m1 = m2) := by
  by_cases e : m1 = m2
  · subst e
    rw [same_look h1, decide_eq_true rfl]
  · rw [decide_eq_false e]
    refine Bool.eq_false_iff.mpr fun z => e ?_
    have z2 := (Bool.and_eq_true _ _ ▸ z : _ ∧ _).2
    have z3 := List.all_eq_true.mp z2
    have h2 : (keys m2).Nodup := hk ▸ h1
    have e1 : m1 = (keys m1).map fun x => (x, get m1 x) := (self_get h1).symm
    have e2 : m2 = (keys m2).map fun x => (x, get m2 x) := (self_get h2).symm
    rw [e1, e2, ← hk]
    refine List.map_congr_left fun x hx => ?_
    have := of_decide_eq_true (z3 (x, get m1 x) (look_some (look_get hx)))
    rw [get_of this]
section
variable {ns L : List Str} {l m : Anc} {rk rk2 : Str → Nat} {t x5 x8 x9 x10 x11 x12 x15 x16 : Option D}
abbrev stt (t : Option D) (ns L : List Str) (l m : Anc) (x5 x8 x9 x10 x11 x12 x15 x16 : Option D) : Ev := [none, some .st, t, some (txs ns), some (.dic (mapD .str l)), x5, some (.dic (mapD .str m)), some (txs L), x8, x9, x10, x11, x12, some (hangD m), some (txs (keys m)), x15, x16]
theorem b1_run (A : Acy m rk) (hL : L = lks m (keys m)) : ∃ y15, b_law_1 (stt t ns L l m x5 x8 x9 x10 x11 x12 x15 x16) = .nx (stt t ns L l m x5 x8 x9 x10 x11 x12 y15 x16) := by
  have hl := A.len
  have hg : ∀ x ∈ keys m, sOk x := fun x hx => (A.good x hx).ok
  have hlL : L.length ≤ 100 := by rw [hL]; unfold lks; exact Nat.le_trans (List.length_filter_le _ _) (by rw [List.length_map]; omega)
  have hgL : ∀ x ∈ L, sOk x := fun x hx => hg x (by rw [hL] at hx; exact (List.mem_filter.mp hx).1)
  have hkl : (keys m).length ≤ 100 := by rw [List.length_map]; omega
  have hlk : f_Hanging_looks [hangD m] = .ok (txs L) := (v_hlooks hl).trans (by rw [hL])
  have e1 : fCall 2 f__law_same_dict [] (fCons (fMeth "Hanging" "rows" 1 f_Hanging_rows [] (fVar 13) fNil) (fCons (fVar 6) fNil)) (stt t ns L l m x5 x8 x9 x10 x11 x12 x15 x16) = .ok (.bl true) :=
    callE (ds := [.dic (mapD .str m), .dic (mapD .str m)]) (consE (methE rfl rfl rfl rfl v_hrows) (consE rfl rfl)) rfl (same_dictS A.nd hg hl (anc_ok A))
  have e2 : fCall 2 f__law_same [] (fCons (fLst (fCons (fMeth "Hanging" "dishes" 1 f_Hanging_dishes [] (fVar 13) fNil) (fCons (fMeth "Hanging" "looks" 1 f_Hanging_looks [] (fVar 13) fNil) fNil))) (fCons (fLst (fCons (fVar 14) (fCons (fVar 7) fNil))) fNil)) (stt t ns L l m x5 x8 x9 x10 x11 x12 x15 x16) = .ok (.bl true) := by
    refine callE (ds := [.lst [txs (keys m), txs L], .lst [txs (keys m), txs L]]) (consE (lstE (consE (methE rfl rfl rfl rfl v_hdishes) (consE (methE rfl rfl rfl rfl hlk) rfl)) (show 2 ≤ 1000 by decide)) (consE (lstE (consE rfl (consE rfl rfl)) (show 2 ≤ 1000 by decide)) rfl)) rfl (same6 ?_)
    refine ⟨show 2 ≤ 1000 by decide, fun d hd => ?_⟩
    rcases List.mem_cons.mp hd with rfl | hd
    · exact pl_strs (Nat.le_trans hkl (by decide)) hg
    · rw [List.mem_singleton.mp hd]
      exact pl_strs (by omega) hgL
  have p13 : itP "Hanging" "anchors" (fun s => (s[13]?).join) (stt t ns L l m x5 x8 x9 x10 x11 x12 x15 x16) = some (.dic (mapD .str m)) := itPE (fs := [("anchors", .dic (mapD .str m))]) rfl rfl
  have e3 : fLcD (itP "Hanging" "anchors" (fun s => (s[13]?).join)) keysD [9] (fgNm 9) fYes (fVar 9) (stt t ns L l m x5 x8 x9 x10 x11 x12 x15 x16) = .ok (txs (keys m)) := by
    refine lcDE p13 (by rw [keys_map, List.length_map]; exact Nat.le_of_lt (lim_of (Nat.le_trans hkl (by decide)))) ?_
    rw [keys_map]
    exact lc_map D.str D.str (keys m) fun x _ => ⟨_, rfl, rfl⟩
  have e4 : fLIt (itP "Hanging" "anchors" (fun s => (s[13]?).join)) (stt t ns L l m x5 x8 x9 x10 x11 x12 x15 x16) = .ok (txs (keys m)) := (lItE p13).trans (by rw [keys_map])
  have m1 : fMeth "Hanging" "rows" 1 f_Hanging_rows [] (fVar 13) fNil (stt t ns L l m x5 x8 x9 x10 x11 x12 x15 x16) = .ok (.dic (mapD .str m)) := methE rfl rfl rfl rfl v_hrows
  have m2 : fMeth "Hanging" "dishes" 1 f_Hanging_dishes [] (fVar 13) fNil (stt t ns L l m x5 x8 x9 x10 x11 x12 x15 x16) = .ok (txs (keys m)) := methE rfl rfl rfl rfl v_hdishes
  have m3 : fMeth "Hanging" "looks" 1 f_Hanging_looks [] (fVar 13) fNil (stt t ns L l m x5 x8 x9 x10 x11 x12 x15 x16) = .ok (txs L) := methE rfl rfl rfl rfl hlk
  have e5 := told3E (i := 15) (w1 := "late") (w2 := "late") (f := fNilS) (s := stt t ns L l m x5 x8 x9 x10 x11 x12 x15 x16) (show 15 < 17 by decide) m1 m2 m3 (strsB_txs (keys m)) (strsB_txs L) (by rw [List.length_map]; exact lim_of (Nat.le_trans hkl (by decide))) (by rw [List.length_map]; exact lim_of (by omega))
  exact ⟨_, seqN (step_ok e1) (seqN (step_ok e2) (seqN (ifsF (orTF (binTE e3 rfl (neX_same hg)) (binTE e4 rfl (neX_same hg))) rfl) e5))⟩
theorem b2_run (A : Acy l rk) (Am : Acy m rk2) (hm : m = sortK l) {x : Str} (hx : x ∈ keys l) : ∃ y16, b_law_2 (stt t ns L l m x5 x8 (some (.str x)) x10 x11 x12 x15 x16) = .nx (stt t ns L l m x5 x8 (some (.str x)) x10 x11 x12 x15 y16) := by
  have hxm : x ∈ keys m := by rw [hm]; exact mem_keys.mpr hx
  have ec : chain m x = chain l x := by rw [hm]; exact chain_sort l x
  have hcl := chain_len A x hx
  have hb := A.bd x hx
  have hl := A.len
  have hgc : ∀ y ∈ (chain l x).reverse, sOk y := fun y hy => (A.good y (chain_rk A x hx y (List.mem_reverse.mp hy)).1).ok
  have ew : fMeth "Hanging" "way" 2 f_Hanging_way [] (fVar 13) (fCons (fVar 9) fNil) (stt t ns L l m x5 x8 (some (.str x)) x10 x11 x12 x15 x16) = .ok (txs (chain l x).reverse) :=
    methE (ds := [.str x]) rfl rfl (consE rfl rfl) rfl ((v_hway Am hxm).trans (by rw [ec]))
  refine ⟨_, seqN (setFE (show 16 < 17 by decide) ew) (seqN (step_ok (callBE (ds := [txs (chain l x).reverse, txs (chain l x).reverse]) (consE rfl (consE (callE (ds := [.dic (mapD .str l), .str x]) (consE rfl (consE rfl rfl)) rfl (v_lway A hx)) rfl)) rfl (same6 (pl_strs (by rw [List.length_reverse]; omega) hgc)) rfl)) (appE rfl rfl (by rw [List.length_map, List.length_reverse]; exact lim_of (by omega))))⟩
end
end DL.K06
namespace DL.K06
open PySem PySem.Spec PyProof.Rows L2 DL.BO
variable [TabC]
theorem among_no {α : Type} {f : α → D} {l : List (Str × α)} {x : Str} (h : x ∉ keys l) : f_is_among [.str x, .dic (mapD f l)] = .ok (.bl false) := by
  refine runB_rt (retE (andT (bltE rfl rfl) (binE (x := .str x) (y := .dic (mapD f l)) rfl rfl ?_)))
  rw [dIn_map, look_isSome, decide_eq_false h]
abbrev ODD6 : List D := [.str "late", .str "clock", .str "", .non, .int 5, .lst [], .tup [.str "rice"], .dic [], .bl true]
theorem odd_no {m : Anc} (hb : ∀ y ∈ keys m, y ∈ NAMES) {d : D} (h : d ∈ ODD6) : f_is_among [d, .dic (mapD .str m)] = .ok (.bl false) ∧ Pl 4 d := by
  have nn : ∀ {x : Str}, decide (x ∈ NAMES) = false → x ∉ keys m := fun h z => of_decide_eq_false h (hb _ z)
  have : d = .str "late" ∨ d = .str "clock" ∨ d = .str "" ∨ d = .non ∨ d = .int 5 ∨ d = .lst [] ∨ d = .tup [.str "rice"] ∨ d = .dic [] ∨ d = .bl true := by simpa [ODD6] using h
  rcases this with rfl | rfl | rfl | rfl | rfl | rfl | rfl | rfl | rfl
  · exact ⟨among_no (nn (by decide +kernel)), show sOk _ by decide +kernel⟩
  · exact ⟨among_no (nn (by decide +kernel)), show sOk _ by decide +kernel⟩
  · exact ⟨among_no (nn (by decide +kernel)), show sOk _ by decide +kernel⟩
  · exact ⟨runB_rt (retE (andF (bltE rfl rfl))), trivial⟩
  · exact ⟨runB_rt (retE (andF (bltE rfl rfl))), trivial⟩
  · exact ⟨runB_rt (retE (andF (bltE rfl rfl))), by decide, fun _ z => nomatch z⟩
  · exact ⟨runB_rt (retE (andF (bltE rfl rfl))), by decide, fun x hx => by rw [List.mem_singleton.mp hx]; exact (show sOk _ by decide +kernel)⟩
  · exact ⟨runB_rt (retE (andF (bltE rfl rfl))), rfl⟩
  · exact ⟨runB_rt (retE (andF (bltE rfl rfl))), trivial⟩
section
variable {ns L : List Str} {l m : Anc} {rk rk2 : Str → Nat} {t x5 x8 x9 x10 x11 x12 x15 x16 : Option D}
theorem none_ok : sOk "none" := by decide +kernel
theorem b4_run {d : D} (h : f_is_among [d, .dic (mapD .str m)] = .ok (.bl false)) (hp : Pl 4 d) : b_law_4 (stt t ns L l m x5 x8 x9 (some d) x11 x12 x15 x16) = .nx (stt t ns L l m x5 x8 x9 (some d) x11 x12 x15 x16) := by
  have e : fMeth "Hanging" "way" 2 f_Hanging_way [] (fVar 13) (fCons (fVar 10) fNil) (hideL (stt t ns L l m x5 x8 x9 (some d) x11 x12 x15 x16) [5]) = .ex (NoDish d) := methE (ds := [d]) rfl rfl (consE rfl rfl) rfl (v_hway_no h)
  refine step_ok (callE (ds := [.tup [.str "none", d], .tup [.str "none", d]]) (consE (triedX e rfl rfl) (consE (tupE (consE rfl (consE rfl rfl)) (show 2 ≤ 1000 by decide)) rfl)) rfl (same6 ⟨show 2 ≤ 1000 by decide, fun x hx => ?_⟩))
  rcases List.mem_cons.mp hx with rfl | hx
  · exact none_ok
  · rw [List.mem_singleton.mp hx]
    exact hp
theorem b5_run {d : D} (h : f_Hanging___eq__ [hangD m, d] = .ok (.bl false)) (hr : (if nobj d = true then f_Hanging___eq__ [hangD m, d] else f_Hanging___eq__ [d, hangD m]) = .ok (.bl false)) (ho : othD "Hanging" d = true) : b_law_5 (stt t ns L l m x5 x8 x9 x10 x11 (some d) x15 x16) = .nx (stt t ns L l m x5 x8 x9 x10 x11 (some d) x15 x16) := by
  have hc : (isC "Hanging" (hangD m) && othD "Hanging" d) = true := by rw [hC, ho]; rfl
  exact ifsF (orTF (valE (eqUE (d := hangD m) (y := d) rfl rfl hc h)) (orTF (valE (eqRE (d := hangD m) (y := d) rfl rfl hc hr)) (notTE (k := true) (valE (neUE (d := hangD m) (y := d) rfl rfl hc h))))) rfl
end
end DL.K06
namespace DL.K06
open PySem PySem.Spec PyProof.Rows L2 DL.BO
variable [TabC]
theorem M_law : B_law (fun _ _ => False) { nx := fun _ _ => False, rt := fun d _ => d = .bl true } (none :: some .st :: List.replicate (N_law.length - 2) none) 0 := by
  unfold B_law
  refine seqM (forU (i := fRange1 (fC (.int 5))) (ds := (List.range 5).map fun i => .int (i : Nat)) rfl ?_)
  refine sfor_acc (fun i : Nat => .int (i : Nat)) (fun acc s n => n ≤ 100 * acc.length ∧ ∃ x2 x3 x4 x5 x6 x7 x8 x9 x10 x11 x12 x13 x14 x15 x16 : Option D, s = [none, some .st, x2, x3, x4, x5, x6, x7, x8, x9, x10, x11, x12, x13, x14, x15, x16]) (List.range 5) ⟨Nat.le_refl _, _, _, _, _, _, _, _, _, _, _, _, _, _, _, _, rfl⟩ (fun s' n' _ => rfl) ?_
  rintro acc turn post s n de' e ⟨hn, x2, x3, x4, x5, x6, x7, x8, x9, x10, x11, x12, x13, x14, x15, x16, rfl⟩ hq
  have hlt := len_pre e
  rw [List.length_range] at hlt
  refine ⟨_, rfl, ?_⟩
  refine seqM (setM (callMM (consU rfl (consM (callM rfl rfl (take_run (by decide) (by decide) (by omega) fun r r0 r1 => ?_))))))
  obtain ⟨j, rfl⟩ := nat_of r0
  refine ⟨rfl, j, rfl, by omega, fun ys hp => ?_⟩
  obtain ⟨ns, hns⟩ : ∃ ns, ns = ys.take j := ⟨_, rfl⟩
  rw [← hns]
  have nnd : ns.Nodup := hns ▸ (hp.nodup_iff.mpr (by decide +kernel : NAMES.Nodup)).sublist (List.take_sublist _ _)
  have nnm : ∀ x ∈ ns, x ∈ NAMES := fun x hx => hp.subset (by rw [hns] at hx; exact List.mem_of_mem_take hx)
  have ngd : ∀ x ∈ ns, Good x := fun x hx => names_good (nnm x hx)
  have nle : ns.length ≤ 5 := by
    rw [hns, List.length_take]
    omega
  clear hns hp
  have nok : ∀ x ∈ ns, sOk x := fun x hx => (ngd x hx).ok
  try dsimp only
  try simp only [List.set_cons_zero, List.set_cons_succ]
  refine seqM (setM (callM (ds := [.st, txs ns]) rfl rfl ⟨ns, rfl, by omega, nnd, nok, by omega, fun l hk hh => ?_⟩))
  have hk : (keys l).Perm ns := hk
  have lnd : (keys l).Nodup := hk.nodup_iff.mpr nnd
  have ll : l.length = ns.length := by have := hk.length_eq; rw [List.length_map] at this; exact this
  have lgd : ∀ x ∈ keys l, Good x := fun x hx => ngd x (hk.subset hx)
  have A := hung_acy hh lnd lgd (by omega)
  generalize hrk : (fun x => (keys l).idxOf x) = rk at A
  have eU : rise ns = keys (sortK l) := by rw [keys_sort]; exact (rise_eq hk).symm
  have As := A.sort
  obtain ⟨m, hm⟩ : ∃ m, m = sortK l := ⟨_, rfl⟩
  rw [← hm] at eU As
  try dsimp only
  try simp only [List.set_cons_zero, List.set_cons_succ]
  -- given
  refine seqU (setFE (d := .dic (mapD .str l)) (show 5 < 17 by decide) (bltE (consE rfl rfl) rfl)) ?_
  try dsimp only
  try simp only [List.set_cons_zero, List.set_cons_succ]
  have fl : flatF [("anchors", D.dic (mapD .str m))] = true := by
    show (flatK false (mapD D.str m) && true) = true
    rw [Bool.and_true]
    unfold flatK mapD
    rw [List.all_map, List.all_eq_true]
    exact fun _ _ => rfl
  have hmk : f_Hanging___init__ [.dic (mapD .str l)] = .ok (hangD m) := by rw [hm]; exact v_hangingQ A
  refine seqU (asgE (d := .tup [hangD m, txs (keys m)]) (tupE (consE (makeQE (ds := [.dic (mapD .str l)]) (fs := [("anchors", .dic (mapD .str m))]) (consE rfl rfl) rfl hmk fl) (consE (callE (ds := [txs ns]) (consE rfl rfl) rfl ((v_lrising (by omega)).trans (by rw [eU]))) rfl)) (show 2 ≤ 1000 by decide)) rfl) ?_
  try dsimp only
  try simp only [List.set_cons_zero, List.set_cons_succ]
  refine seqU (dputE (kvs := mapD .str l) (kk := .inr "late") rfl rfl rfl rfl (by unfold mapD; rw [List.length_map]; exact lim_of (by omega))) ?_
  try dsimp only
  try simp only [List.set_cons_zero, List.set_cons_succ]
  generalize some (D.dic (putD (mapD .str l) (.inr "late") (.str "clock"))) = y5
  have kml : ∀ x ∈ keys m, x ∈ keys l := fun x hx => by rw [hm] at hx; exact mem_keys.mp hx
  have lm : m.length = l.length := by
    have : (keys m).length = (rise ns).length := by rw [eU]
    rw [rise_len, List.length_map] at this
    omega
  refine seqU (setE (d := .dic (mapD .str m)) (bltE (consE (lcE (ds := (keys m).map .str) (xs := m.map fun p => D.tup [.str p.1, .str p.2]) (iterE rfl rfl) (by rw [List.length_map, List.length_map]; exact Nat.le_of_lt (lim_of (by omega))) ?_) rfl) (dDict_map (f := D.str) As.nd))) ?_
  · have e1 : (m.map fun p => D.tup [.str p.1, .str p.2]) = (keys m).map fun x => D.tup [.str x, .str (get l x)] := by
      rw [hm]
      unfold keys sortK
      rw [List.map_map, List.map_map, List.map_map]
      rfl
    rw [e1]
    exact lc_map D.str (fun x => D.tup [.str x, .str (get l x)]) (keys m) fun x hx => ⟨_, rfl, tupE (consE rfl (consE (binE rfl rfl (by rw [dIdx_map, look_get (kml x hx)]; rfl)) rfl)) (show 2 ≤ 1000 by decide)⟩
  try dsimp only
  try simp only [List.set_cons_zero, List.set_cons_succ]
  have hL : lks l (keys m) = lks m (keys m) := by rw [hm]; exact (lks_sort lnd _).symm
  obtain ⟨L, hLL⟩ : ∃ L, L = lks m (keys m) := ⟨_, rfl⟩
  refine seqU (setFE (d := txs L) (show 7 < 17 by decide) (lcE (ds := (keys m).map .str) (xs := L.map .str) (iterE rfl rfl) (by rw [List.length_map, List.length_map]; exact Nat.le_of_lt (lim_of (by omega))) ?_)) ?_
  · rw [hLL, ← hL]
    show _ = Res.ok (((keys m).filter fun x => decide (x ∈ l.map (·.2))).map D.str)
    refine lc_filter D.str (fun x => decide (x ∈ l.map (·.2))) D.str (keys m) ?_
    intro x hx
    exact ⟨_, rfl, valE (binE rfl rfl val_in), fun _ => rfl⟩
  try dsimp only
  try simp only [List.set_cons_zero, List.set_cons_succ]
  -- told twice
  have r1 : ∀ y8 y15 : Option D, ∃ z8 z15, fForL (fgNm 8) b_law_1 ((List.range 2).map fun i => .int (i : Nat)) (stt (some (.int (turn : Nat))) ns L l m y5 y8 x9 x10 x11 x12 y15 x16) = .nx (stt (some (.int (turn : Nat))) ns L l m y5 z8 x9 x10 x11 x12 z15 x16) := fun y8 y15 => by
    obtain ⟨s', e, z8, z15, rfl⟩ := for_inv (g := fgNm 8) (b := b_law_1) (fun s => ∃ z8 z15, s = stt (some (.int (turn : Nat))) ns L l m y5 z8 x9 x10 x11 x12 z15 x16) ((List.range 2).map fun i => .int (i : Nat)) _ ⟨y8, y15, rfl⟩ (fun d hd s ⟨z8, z15, hs⟩ => by
      subst hs
      obtain ⟨w15, hw⟩ := b1_run (t := some (.int (turn : Nat))) (ns := ns) (l := l) (x5 := y5) (x8 := some d) (x9 := x9) (x10 := x10) (x11 := x11) (x12 := x12) (x15 := z15) (x16 := x16) As hLL
      exact ⟨_, rfl, _, hw, _, _, rfl⟩)
    exact ⟨z8, z15, e⟩
  obtain ⟨y8, y15, r1⟩ := r1 x8 x15
  refine seqU (forE (ds := (List.range 2).map fun i => .int (i : Nat)) rfl r1) ?_
  -- ways
  have r2 : ∀ (x : Str), x ∈ keys l → ∀ y8 y16 : Option D, ∃ z8 z16, b_law_3 (stt (some (.int (turn : Nat))) ns L l m y5 y8 (some (.str x)) x10 x11 x12 y15 y16) = .nx (stt (some (.int (turn : Nat))) ns L l m y5 z8 (some (.str x)) x10 x11 x12 y15 z16) := fun x hx y8 y16 => by
    obtain ⟨s', e, z8, z16, rfl⟩ := for_inv (g := fgNm 8) (b := b_law_2) (fun s => ∃ z8 z16, s = stt (some (.int (turn : Nat))) ns L l m y5 z8 (some (.str x)) x10 x11 x12 y15 z16) ((List.range 2).map fun i => .int (i : Nat)) _ ⟨y8, y16, rfl⟩ (fun d hd s ⟨z8, z16, hs⟩ => by
      subst hs
      obtain ⟨w16, hw⟩ := b2_run (t := some (.int (turn : Nat))) (ns := ns) (L := L) (x5 := y5) (x8 := some d) (x10 := x10) (x11 := x11) (x12 := x12) (x15 := y15) (x16 := z16) A As hm hx
      exact ⟨_, rfl, _, hw, _, _, rfl⟩)
    exact ⟨z8, z16, forE (ds := (List.range 2).map fun i => .int (i : Nat)) rfl e⟩
  have r3 : ∃ z8 z9 z16, fForL (fgNm 9) b_law_3 (ns.map .str) (stt (some (.int (turn : Nat))) ns L l m y5 y8 x9 x10 x11 x12 y15 x16) = .nx (stt (some (.int (turn : Nat))) ns L l m y5 z8 z9 x10 x11 x12 y15 z16) := by
    obtain ⟨s', e, z8, z9, z16, rfl⟩ := for_inv (g := fgNm 9) (b := b_law_3) (fun s => ∃ z8 z9 z16, s = stt (some (.int (turn : Nat))) ns L l m y5 z8 z9 x10 x11 x12 y15 z16) (ns.map .str) _ ⟨y8, x9, x16, rfl⟩ (fun d hd s ⟨z8, z9, z16, hs⟩ => by
      subst hs
      obtain ⟨x, hx, rfl⟩ := List.mem_map.mp hd
      obtain ⟨w8, w16, hw⟩ := r2 x (hk.mem_iff.mpr hx) z8 z16
      exact ⟨_, rfl, _, hw, _, _, _, rfl⟩)
    exact ⟨z8, z9, z16, e⟩
  obtain ⟨z8, z9, z16, r3⟩ := r3
  refine seqU (forE (ds := ns.map .str) (iterE rfl rfl) r3) ?_
  -- odd objects
  have mnm : ∀ y ∈ keys m, y ∈ NAMES := fun y hy => nnm y (hk.subset (kml y hy))
  have r4 : ∃ z10, fForL (fgNm 10) b_law_4 ODD6 (stt (some (.int (turn : Nat))) ns L l m y5 z8 z9 x10 x11 x12 y15 z16) = .nx (stt (some (.int (turn : Nat))) ns L l m y5 z8 z9 z10 x11 x12 y15 z16) := by
    obtain ⟨s', e, z10, rfl⟩ := for_inv (g := fgNm 10) (b := b_law_4) (fun s => ∃ z10, s = stt (some (.int (turn : Nat))) ns L l m y5 z8 z9 z10 x11 x12 y15 z16) ODD6 _ ⟨x10, rfl⟩ (fun d hd s ⟨z10, hs⟩ => by
      subst hs
      obtain ⟨h1, h2⟩ := odd_no mnm hd
      exact ⟨_, rfl, _, b4_run h1 h2, _, rfl⟩)
    exact ⟨z10, e⟩
  obtain ⟨z10, r4⟩ := r4
  refine seqU (forE (ds := ODD6) (iterE (lstE (consE rfl (consE rfl (consE rfl (consE rfl (consE rfl (consE (lstE rfl (show 0 ≤ 1000 by decide)) (consE (tupE (consE rfl rfl) (show 1 ≤ 1000 by decide)) (consE rfl (consE rfl rfl))))))))) (show 9 ≤ 1000 by decide)) rfl) r4) ?_
  -- others
  have hqq : ("qq" : Str) ∉ keys l := fun z => (by decide +kernel : ¬ (("qq" : Str) ∈ NAMES)) (nnm _ (hk.subset z))
  have A2 : Acy (l ++ [(("qq" : Str), ("clock" : Str))]) (fun x => (keys (l ++ [(("qq" : Str), ("clock" : Str))])).idxOf x) := by
    refine hung_acy (hung_snoc hh (.inl rfl)) ?_ (fun x hx => ?_) (by rw [List.length_append, List.length_singleton]; omega)
    · show (List.map _ _).Nodup
      rw [List.map_append, List.nodup_append]
      exact ⟨lnd, by simp, fun a ha b hb z => by
        have hb : b = "qq" := by simpa using hb
        exact hqq (hb ▸ z ▸ ha)⟩
    · have hx : x ∈ keys l ++ [("qq" : Str)] := by
        have : keys (l ++ [(("qq" : Str), ("clock" : Str))]) = keys l ++ [("qq" : Str)] := by unfold keys; rw [List.map_append]; rfl
        rw [← this]; exact hx
      rcases List.mem_append.mp hx with hx | hx
      · exact lgd x hx
      · rw [List.mem_singleton.mp hx]; exact good_of (by decide +kernel)
  obtain ⟨m2, hm2⟩ : ∃ m2, m2 = sortK (l ++ [(("qq" : Str), ("clock" : Str))]) := ⟨_, rfl⟩
  have hmk2 := v_hangingQ A2
  have As2 := A2.sort
  rw [← hm2] at hmk2 As2
  have flat : ∀ m : Anc, flatF [("anchors", D.dic (mapD .str m))] = true := fun m => by
    show (flatK false (mapD D.str m) && true) = true
    rw [Bool.and_true]
    unfold flatK mapD
    rw [List.all_map, List.all_eq_true]
    exact fun _ _ => rfl
  try dsimp only
  try simp only [List.set_cons_zero, List.set_cons_succ]
  refine seqM (setM ?_)
  unfold eLst
  refine consU rfl (consU rfl (consU (d := hangD m2) (makeQE (ds := [.dic (mapD .str (l ++ [(("qq" : Str), ("clock" : Str))]))]) (fs := [("anchors", .dic (mapD .str m2))]) (consE (callE (ds := [.dic (mapD .str l), .str "qq", .str "clock"]) (consE rfl (consE rfl (consE rfl rfl))) rfl (v_with hqq (by omega))) rfl) rfl hmk2 (flat m2)) (consM ?_)))
  unfold eMakeQ
  refine consM (callM (ds := [.st, txs ns]) rfl rfl ⟨ns, rfl, by omega, nnd, nok, by omega, fun l3 hk3 hh3 => ?_⟩)
  have hk3 : (keys l3).Perm ns := hk3
  have l3nd : (keys l3).Nodup := hk3.nodup_iff.mpr nnd
  have ll3 : l3.length = ns.length := by have := hk3.length_eq; rw [List.length_map] at this; exact this
  have A3 := hung_acy hh3 l3nd (fun x hx => ngd x (hk3.subset hx)) (by omega)
  obtain ⟨m3, hm3⟩ : ∃ m3, m3 = sortK l3 := ⟨_, rfl⟩
  have hmk3 := v_hangingQ A3
  have As3 := A3.sort
  rw [← hm3] at hmk3 As3
  have k3 : keys m = keys m3 := by rw [hm, hm3, keys_sort, keys_sort]; exact rise_eq (hk.trans hk3.symm)
  refine nilU ⟨rfl, ofM hmk3 ⟨⟨_, rfl, flat m3⟩, nilU ⟨show 4 ≤ 1000 by decide, ?_⟩⟩⟩
  try dsimp only
  try simp only [List.set_cons_zero, List.set_cons_succ]
  -- compared
  have q2 : f_Hanging___eq__ [hangD m, hangD m2] = .ok (.bl false) := by
    rw [v_heq As As2]
    have : m.length ≠ m2.length := by
      have h2 : m2.length = l.length + 1 := by
        have : (keys m2).length = (keys (l ++ [(("qq" : Str), ("clock" : Str))])).length := by rw [hm2, keys_sort, rise_len]
        rw [List.length_map, List.length_map, List.length_append] at this
        exact this
      omega
    have hb : (m.length == m2.length) = false := beq_eq_false_iff_ne.mpr this
    rw [hb, Bool.false_and]
  have q2' : f_Hanging___eq__ [hangD m2, hangD m] = .ok (.bl false) := by
    rw [v_heq As2 As]
    have : m2.length ≠ m.length := by
      have h2 : m2.length = l.length + 1 := by
        have : (keys m2).length = (keys (l ++ [(("qq" : Str), ("clock" : Str))])).length := by rw [hm2, keys_sort, rise_len]
        rw [List.length_map, List.length_map, List.length_append] at this
        exact this
      omega
    have hb : (m2.length == m.length) = false := beq_eq_false_iff_ne.mpr this
    rw [hb, Bool.false_and]
  have r5 : ∃ z12, fForL (fgNm 12) b_law_5 [.non, .dic (mapD .str m), hangD m2] (stt (some (.int (turn : Nat))) ns L l m y5 z8 z9 z10 (some (.lst [.non, .dic (mapD .str m), hangD m2, hangD m3])) x12 y15 z16) = .nx (stt (some (.int (turn : Nat))) ns L l m y5 z8 z9 z10 (some (.lst [.non, .dic (mapD .str m), hangD m2, hangD m3])) z12 y15 z16) := by
    obtain ⟨s', e, z12, rfl⟩ := for_inv (g := fgNm 12) (b := b_law_5) (fun s => ∃ z12, s = stt (some (.int (turn : Nat))) ns L l m y5 z8 z9 z10 (some (.lst [.non, .dic (mapD .str m), hangD m2, hangD m3])) z12 y15 z16) [.non, .dic (mapD .str m), hangD m2] _ ⟨x12, rfl⟩ (fun d hd s ⟨z12, hs⟩ => by
      subst hs
      have hd : d = .non ∨ d = .dic (mapD .str m) ∨ d = hangD m2 := by simpa using hd
      rcases hd with rfl | rfl | rfl
      · exact ⟨_, rfl, _, b5_run (eq_non (.inl rfl)) ((if_pos rfl).trans (eq_non (.inl rfl))) rfl, _, rfl⟩
      · exact ⟨_, rfl, _, b5_run (eq_non (.inr ⟨_, rfl⟩)) ((if_pos rfl).trans (eq_non (.inr ⟨_, rfl⟩))) rfl, _, rfl⟩
      · exact ⟨_, rfl, _, b5_run q2 ((if_neg Bool.false_ne_true).trans q2') hO, _, rfl⟩)
    exact ⟨z12, e⟩
  obtain ⟨z12, r5⟩ := r5
  have q3 : f_Hanging___eq__ [hangD m, hangD m3] = .ok (.bl (decide (m = m3))) := by rw [v_heq As As3, same_sorted As.nd k3]
  have q4 : dEqX (.dic (mapD D.str m3)) (.dic (mapD D.str m)) = some (.bl (decide (m = m3))) := by
    rw [eqX_map pyEq_s (fun p hp => okD_str (anc_ok As3 p hp)) fun p hp => okD_str (anc_ok As p hp), same_sorted As3.nd k3.symm]
    exact congrArg (fun b => some (D.bl b)) (decide_eq_decide.mpr eq_comm)
  have hmk4 : f_Hanging___init__ [.dic (mapD .str m)] = .ok (hangD m) := by
    have := v_hangingQ As
    rw [hm, sortK_sortK] at this
    rw [hm]
    exact this
  refine upSN (seqN (forE (ds := [.non, .dic (mapD .str m), hangD m2]) (iterE (slE (d := .lst [.non, .dic (mapD .str m), hangD m2, hangD m3]) rfl rfl rfl rfl) rfl) r5) (ifsF (orTF (binTE (k := false) (owBE rfl (binE rfl rfl rfl) q3) (binE (methE rfl rfl rfl rfl v_hrows) rfl q4) ?_) (valE (owNeE (b := true) rfl (makeQE (ds := [.dic (mapD .str m)]) (fs := [("anchors", .dic (mapD .str m))]) (consE rfl rfl) rfl hmk4 (flat m)) (v_heq_same As)))) rfl)) ?_
  · generalize decide (m = m3) = b
    show dNe (.bl b) (.bl b) = _
    rw [dNe_ok (okD_bl _) (okD_bl _)]
    have : pyEq (.bl b) (.bl b) = true := SeqAt.eqv_refl _ (okD_lay (okD_bl _))
    rw [this]
    rfl
  · refine hq _ _ ⟨?_, _, _, _, _, _, _, _, _, _, _, _, _, _, _, _, rfl⟩
    rw [List.length_append, List.length_singleton]
    omega
end DL.K06
namespace DL
open PySem PySem.Spec PyProof.Rows L2
/-- what may leave, of any program and world -/
def CXU : CXT := fun outer H s E e s' => ∃ P w, CX P w outer H s E e s'
theorem cx_end (H : Hp) (s : Shared) (e : Value) (s' : Shared) (h : CXU [] H s (fun _ _ _ => False) e s') : False := by
  obtain ⟨_, _, _, _, _, _, _, _, _, _, _, _, _, _, z⟩ := h
  exact z
theorem map3 {α β γ δ : Type} {o : Option α} {f : α → β} {g : α → γ} {h : α → δ} {a : β} {b : γ} {c : δ} (h1 : o.map f = some a) (h2 : o.map g = some b) (h3 : o.map h = some c) : o.map (fun s => (f s, g s, h s)) = some (a, b, c) := by
  cases o with
  | none => cases h1
  | some s => rw [Option.map_some, Option.some.inj h1, Option.some.inj h2, Option.some.inj h3]
end DL
namespace DL
/-- the state's words, in two halves -/
theorem map22 {S X Y U V : Type} {o : Option S} {f : S → ((X × Y) × U) × V} {x : X} {y : Y} {u : U} {v : V} (h1 : o.map (fun s => (f s).1.1.2) = some y) (h2 : o.map (fun s => ((f s).1.1.1, (f s).1.2, (f s).2)) = some (x, u, v)) : o.map f = some (((x, y), u), v) := by
  cases o with
  | none => cases h1
  | some s =>
    have e1 : (f s).1.1.2 = y := Option.some.inj h1
    have e2 : ((f s).1.1.1, (f s).1.2, (f s).2) = (x, u, v) := Option.some.inj h2
    show some (f s) = _
    cases e1
    cases e2
    rfl
end DL
namespace DL
open PySem PySem.Spec PyProof.Rows L2
variable [TabC]
/-! ### [..] * k -/
end DL
namespace DL.K06
open PySem PySem.Spec PyProof.Rows L2 HX
abbrev hk : PySem.W.Hook := hookS R.prog 6 fa fn er tf ex sf
theorem ob_eq (s : PySem.W.SharedT) : ob s = hk.obs s.abs := obsS_eq (HandSHeadRun.getT_eq s)
theorem run_c (w : World) (os : OsState) : (endS w os).map ob = some (hk.val w) := map22 (run_c1 w os) (run_c2 w os)
theorem run (w : World) : HandSHeadRun.RunEq R vw hk ob 20000 loose w := fun os => map3 (run_a w os) (run_b w os) (run_c w os)
def tabK (K : PySem.W.Frag) (w : World) : TabC := ⟨[((He.cT K ("law", none)).2, (envOfC "law" (defScope (top 33)) 0 0 .none).qual ++ "<lambda>")], w⟩
theorem tab_in {K : PySem.W.Frag} {w : World} {p : Addr × Str} (hp : p ∈ (tabK K w).T) : ∃ d ∈ tf, p.1 = (He.cT K d).2 := by
  unfold tabK at hp
  simp only [List.mem_cons, List.not_mem_nil, or_false] at hp
  rcases hp with hp
  · exact ⟨("law", none), by simp [tf], by rw [hp]⟩
abbrev spL (K : PySem.W.Frag) (w : World) : Sp := @spLaw (tabK K w) K
theorem scTake : FnScope ["_law_state", "_law_many", "_law_cell", "_law_digit", "_law_mixed"] ["_law_state", "_law_many"] (defScope (top 22)) := ⟨rfl, rfl, rfl, by decide +kernel, rfl, by decide +kernel, by decide +kernel⟩
theorem scFresh : FnScope ["_law_script"] ["_law_script"] (defScope (top 21)) := ⟨rfl, rfl, rfl, by decide +kernel, rfl, by decide +kernel, by decide +kernel⟩
theorem ok_take [TabC] {P : Program} {w : World} {K : PySem.W.Frag} {mg : Str → Option Value} {base : Heap} {f : Addr} {fd : FuncData} (F : FunD K "_law_take" "_law_take" (defArgs (top 22)) (defBody (top 22)) (defScope (top 22)) [] [] f fd) (hg : mg "_law_take" = some (.ref f)) (f_len : mg "len" = none) (f_abs : mg "abs" = none) (f_int : mg "int" = none) :
    GFn P w K mg base "_law_take" 1 ["_law_state", "_law_many"] (lift K 2 sp__law_take) := by
  refine ⟨f, fd, hg, F.kp, F.bindsN (fun _ _ _ _ _ _ us hl => match us, hl with | [_, _], _ => rfl), FnOk.loud (F.ok scTake (fun vs H Q E h => ?_) (fun cdv A outer s H vs Q E hr h => ⟨t_take K, PSs.nox ?_, pure_take _ vs H Q E h⟩))⟩
  · obtain ⟨aS, A0, ds, n, xq, hl, r, _⟩ := h
    rw [r.length, hl]
    rfl
  · unfold t_take tPut tS
    exact pss_cons (ps_asg (pe_op op_add (pe_ix ix_list (pv 0) pe_int (fun _ _ => rfl)) pe_int) (pg_sub (pv 0) pe_int set_list)) (pss_cons (ps_while PassesOwn.never (PW.pt (pw_and (pt_cmpR op_eq (pe_ix ix_list (pv 0) pe_int (fun _ _ => rfl)) pe_int (nomark _)) (pw_and1 (pt_cmpR op_lt (pe_ix ix_list (pv 0) pe_int (fun _ _ => rfl)) (pe_callB call_len rfl f_len boot_len (pa_cons (pe_ix ix_list (pv 0) pe_int (fun _ _ => rfl)) pa_nil)) (nomark _))))) (pss_cons (ps_set (i := 2) scTake.nd rfl (.inl rfl) (pe_callB call_abs rfl f_abs boot_abs (pa_cons (pe_ix ix_list (pe_ix ix_list (pv 0) pe_int (fun _ _ => rfl)) (pe_ix ix_list (pv 0) pe_int (fun _ _ => rfl)) (fun _ _ => rfl)) pa_nil))) (pss_cons (ps_asg (pe_op op_add (pe_ix ix_list (pv 0) pe_int (fun _ _ => rfl)) pe_int) (pg_sub (pv 0) pe_int set_list)) (pss_one (ps_if (pt_cmpR op_ge (pv 2) (pe_op op_pow pe_int pe_int) (nomark _)) (pss_one (ps_asg (pv 2) (pg_sub (pv 0) pe_int set_list))) (pss_one (ps_asg (pe_op op_mod (pe_callTy call_int1 rfl f_int boot_int (pa_cons (pe_op op_add (pe_op op_add (pe_op op_mul (pe_ix ix_list (pv 0) pe_int (fun _ _ => rfl)) pe_int) (pv 2)) pe_int) pa_nil)) pe_int) (pg_sub (pv 0) pe_int set_list)))))))) (pss_cons (ps_if (pt_cmpR op_gt (pe_ix ix_list (pv 0) pe_int (fun _ _ => rfl)) pe_int (nomark _)) (pss_cons (ps_set (i := 3) scTake.nd rfl (.inl rfl) (pe_op op_mod (pe_callTy call_int1 rfl f_int boot_int (pa_cons ((pe_ix ix_list (pv 0) pe_int (fun _ _ => rfl))) pa_nil)) (pv 1))) (pss_cons (ps_asg (pe_op op_fdivW (pe_ix ix_list (pv 0) pe_int (fun _ _ => rfl)) (pv 1)) (pg_sub (pv 0) pe_int set_list)) (pss_one (ps_ret (pv 3))))) pss_nil) (pss_cons (ps_set (i := 4) scTake.nd rfl (.inl rfl) (pe_op op_mod (pe_callTy call_int1 rfl f_int boot_int (pa_cons (pe_op op_pow (pe_op op_add (pe_op op_add (pe_ix ix_list (pv 0) pe_int (fun _ _ => rfl)) (pe_op op_mul pe_int (pe_ix ix_list (pv 0) pe_int (fun _ _ => rfl)))) pe_int) pe_int) pa_nil)) pe_int)) (pss_cons (ps_set (i := 4) scTake.nd rfl (.inl rfl) (pe_op op_mod (pe_callTy call_int1 rfl f_int boot_int (pa_cons (pe_op op_pow (pe_op op_add (pv 4) (pe_op op_mul pe_int (pe_ix ix_list (pv 0) pe_int (fun _ _ => rfl)))) pe_int) pa_nil)) pe_int)) (pss_one (ps_ret (pe_op op_mod (pe_callTy call_int1 rfl f_int boot_int (pa_cons (pe_op op_fdivW (pv 4) pe_int) pa_nil)) (pv 1))))))))
theorem ok_fresh [TabC] {P : Program} {w : World} {K : PySem.W.Frag} {mg : Str → Option Value} {base : Heap} {f : Addr} {fd : FuncData} (F : FunD K "_law_fresh" "_law_fresh" (defArgs (top 21)) (defBody (top 21)) (defScope (top 21)) [] [] f fd) (hg : mg "_law_fresh" = some (.ref f)) (f_list : mg "list" = none) : ∃ f fd, mg "_law_fresh" = some (.ref f) ∧ PySem.W.keepIn K (.ref f) = true ∧ Binds K fd ["_law_script"] [] ∧ FnOk P w K mg base CX0 1 f fd ["_law_script"] (spFresh K) := by
  refine ⟨f, fd, hg, F.kp, F.bindsN (fun _ _ _ _ _ _ us hl => match us, hl with | [_], _ => rfl), F.ok scFresh (fun vs H Q E h => ?_) (fun cdv A outer s H vs Q E hr h => ⟨t_fresh K, PSs.nox ?_, pure_fresh vs H Q E h⟩)⟩
  · obtain ⟨a, ns, rfl, _⟩ := h
    rfl
  · unfold t_fresh
    exact pss_one (ps_ret (pe_lst (pa_cons (pe_callTy call_list_of rfl f_list boot_list (pa_cons (pe_slice sl_list (pv 0) po_none (po_some pe_int)) pa_nil)) (pa_cons pe_int (pa_cons pe_int (pa_cons pe_int (pa_cons pe_int pa_nil)))))))
theorem facts {P : Program} {w : World} {K : PySem.W.Frag} {h : Heap} {mg : Str → Option Value} {f : Addr} (X : K.In h) (G : h.Ns mainGlobals mg) (hfa : mg ("law" : Str) = some (.ref f)) (c : SaysS P fa fn er tf ex sf w h K) (ht : (P.main.scope.names.lookup ("super" : Str)).isSome = false) :
    ∃ fd : FuncData, (∀ (s : Shared) (v : Value), BindsTo s fd ⟨[v], []⟩ [("_law_script", v)]) ∧ ∀ base : Heap, K.In base → base.Ns mainGlobals mg → (∀ p ∈ tf, LamX.TabB base mg (He.cT K p).1 (He.cT K p).2) → FnOk P w K mg base (CX P w) k_law f fd ["_law_script"] (spL K w) := by
  letI : TabC := tabK K w
  have cd : He.SaysD fa fn K := c.d
  have fc := fun (i : Nat) {f : He.Fa} (e : fa[i]? = some f) => cd.fact i e
  have gl__law_fresh : mg "_law_fresh" = some (.ref (He.ga K "_law_fresh")) := He.glo_ok X G (fc 0 rfl)
  have gl__law_tried : mg "_law_tried" = some (.ref (He.ga K "_law_tried")) := He.glo_ok X G (fc 1 rfl)
  have gl__law_take : mg "_law_take" = some (.ref (He.ga K "_law_take")) := He.glo_ok X G (fc 2 rfl)
  have gl__law_mix : mg "_law_mix" = some (.ref (He.ga K "_law_mix")) := He.glo_ok X G (fc 3 rfl)
  have gl__law_names : mg "_law_names" = some (.ref (He.ga K "_law_names")) := He.glo_ok X G (fc 4 rfl)
  have gl__law_one : mg "_law_one" = some (.ref (He.ga K "_law_one")) := He.glo_ok X G (fc 5 rfl)
  have gl__law_hung : mg "_law_hung" = some (.ref (He.ga K "_law_hung")) := He.glo_ok X G (fc 6 rfl)
  have gl_is_name : mg "is_name" = some (.ref (He.ga K "is_name")) := He.glo_ok X G (fc 7 rfl)
  have gl_is_anchor : mg "is_anchor" = some (.ref (He.ga K "is_anchor")) := He.glo_ok X G (fc 8 rfl)
  have gl_rising : mg "rising" = some (.ref (He.ga K "rising")) := He.glo_ok X G (fc 9 rfl)
  have gl_way_up : mg "way_up" = some (.ref (He.ga K "way_up")) := He.glo_ok X G (fc 10 rfl)
  have gl_round_from : mg "round_from" = some (.ref (He.ga K "round_from")) := He.glo_ok X G (fc 11 rfl)
  have gl_check_rounds : mg "check_rounds" = some (.ref (He.ga K "check_rounds")) := He.glo_ok X G (fc 12 rfl)
  have gl__law_rising : mg "_law_rising" = some (.ref (He.ga K "_law_rising")) := He.glo_ok X G (fc 13 rfl)
  have gl__law_same : mg "_law_same" = some (.ref (He.ga K "_law_same")) := He.glo_ok X G (fc 14 rfl)
  have gl__law_same_dict : mg "_law_same_dict" = some (.ref (He.ga K "_law_same_dict")) := He.glo_ok X G (fc 15 rfl)
  have gl_is_among : mg "is_among" = some (.ref (He.ga K "is_among")) := He.glo_ok X G (fc 16 rfl)
  have gl_check_dish : mg "check_dish" = some (.ref (He.ga K "check_dish")) := He.glo_ok X G (fc 17 rfl)
  have gl__law_way : mg "_law_way" = some (.ref (He.ga K "_law_way")) := He.glo_ok X G (fc 18 rfl)
  have gl__law_with : mg "_law_with" = some (.ref (He.ga K "_law_with")) := He.glo_ok X G (fc 19 rfl)
  have gl_law : mg "law" = some (.ref (He.ga K "law")) := He.glo_ok X G (fc 20 rfl)
  have gl_NoDish : mg "NoDish" = some (.ref (He.ga K "NoDish")) := He.glo_ok X G (fc 21 rfl)
  have f_abs : mg "abs" = none := He.free_ok X G (fc 22 rfl)
  have f_all : mg "all" = none := He.free_ok X G (fc 23 rfl)
  have f_bool : mg "bool" = none := He.free_ok X G (fc 24 rfl)
  have f_dict : mg "dict" = none := He.free_ok X G (fc 25 rfl)
  have f_enumerate : mg "enumerate" = none := He.free_ok X G (fc 26 rfl)
  have f_int : mg "int" = none := He.free_ok X G (fc 27 rfl)
  have f_isinstance : mg "isinstance" = none := He.free_ok X G (fc 28 rfl)
  have f_iter : mg "iter" = none := He.free_ok X G (fc 29 rfl)
  have f_len : mg "len" = none := He.free_ok X G (fc 30 rfl)
  have f_list : mg "list" = none := He.free_ok X G (fc 31 rfl)
  have f_range : mg "range" = none := He.free_ok X G (fc 32 rfl)
  have f_str : mg "str" = none := He.free_ok X G (fc 33 rfl)
  have f_super : mg "super" = none := He.free_ok X G (fc 34 rfl)
  have f_tuple : mg "tuple" = none := He.free_ok X G (fc 35 rfl)
  have f_zip : mg "zip" = none := He.free_ok X G (fc 36 rfl)
  have c_CLOCK : ∃ t, mg "CLOCK" = some (.str "clock" t) := He.str_ok X G (fc 37 rfl)
  have c_LETTERS : ∃ t, mg "LETTERS" = some (.str "abcdefghijklmnopqrstuvwxyz" t) := He.str_ok X G (fc 38 rfl)
  have c_MOST_LETTERS : ∃ t, mg "MOST_LETTERS" = some (.int 8 t) := He.int_ok X G (fc 39 rfl)
  have gl_Hanging : mg "Hanging" = some (.ref (He.ga K "Hanging")) := He.glo_ok X G (fc 40 rfl)
  have cl_Hanging : Cls K (He.ga K "Hanging") := He.cls_ok (fc 41 rfl)
  have mk_Hanging : Mk K (He.ga K "Hanging") (He.ma K (He.ga K "Hanging") "__init__") := He.mkr_ok (fc 42 rfl)
  have me_Hanging_rows : Meth K (He.ga K "Hanging") "rows" (He.ma K (He.ga K "Hanging") "rows") := He.meth_ok (fc 43 rfl)
  have me_Hanging_dishes : Meth K (He.ga K "Hanging") "dishes" (He.ma K (He.ga K "Hanging") "dishes") := He.meth_ok (fc 44 rfl)
  have me_Hanging_looks : Meth K (He.ga K "Hanging") "looks" (He.ma K (He.ga K "Hanging") "looks") := He.meth_ok (fc 45 rfl)
  have me_Hanging___iter__ : Meth K (He.ga K "Hanging") "__iter__" (He.ma K (He.ga K "Hanging") "__iter__") := He.meth_ok (fc 46 rfl)
  have me_Hanging_way : Meth K (He.ga K "Hanging") "way" (He.ma K (He.ga K "Hanging") "way") := He.meth_ok (fc 47 rfl)
  have me_Hanging___eq__ : Meth K (He.ga K "Hanging") "__eq__" (He.ma K (He.ga K "Hanging") "__eq__") := He.meth_ok (fc 48 rfl)
  have na_Hanging_anchors : NoAttr K (He.ga K "Hanging") "anchors" := He.noat_ok (fc 49 rfl)
  obtain ⟨fd__law_fresh, F__law_fresh⟩ := cd.def_ 0 rfl
  obtain ⟨fd__law_tried, F__law_tried⟩ := cd.def_ 1 rfl
  obtain ⟨fd__law_take, F__law_take⟩ := cd.def_ 2 rfl
  obtain ⟨fd__law_mix, F__law_mix⟩ := cd.def_ 3 rfl
  obtain ⟨fd__law_names, F__law_names⟩ := cd.def_ 4 rfl
  obtain ⟨fd__law_one, F__law_one⟩ := cd.def_ 5 rfl
  obtain ⟨fd__law_hung, F__law_hung⟩ := cd.def_ 6 rfl
  obtain ⟨fd_is_name, F_is_name⟩ := cd.def_ 7 rfl
  obtain ⟨fd_is_anchor, F_is_anchor⟩ := cd.def_ 8 rfl
  obtain ⟨fd_rising, F_rising⟩ := cd.def_ 9 rfl
  obtain ⟨fd_way_up, F_way_up⟩ := cd.def_ 10 rfl
  obtain ⟨fd_round_from, F_round_from⟩ := cd.def_ 11 rfl
  obtain ⟨fd_check_rounds, F_check_rounds⟩ := cd.def_ 12 rfl
  obtain ⟨fd_Hanging___init__, F_Hanging___init__⟩ := cd.def_ 13 rfl
  obtain ⟨fd__law_rising, F__law_rising⟩ := cd.def_ 14 rfl
  obtain ⟨fd_Hanging_rows, F_Hanging_rows⟩ := cd.def_ 15 rfl
  obtain ⟨fd__law_same, F__law_same⟩ := cd.def_ 16 rfl
  obtain ⟨fd__law_same_dict, F__law_same_dict⟩ := cd.def_ 17 rfl
  obtain ⟨fd_Hanging_dishes, F_Hanging_dishes⟩ := cd.def_ 18 rfl
  obtain ⟨fd_Hanging_looks, F_Hanging_looks⟩ := cd.def_ 19 rfl
  obtain ⟨fd_Hanging___iter__, F_Hanging___iter__⟩ := cd.def_ 20 rfl
  obtain ⟨fd_is_among, F_is_among⟩ := cd.def_ 21 rfl
  obtain ⟨fd_check_dish, F_check_dish⟩ := cd.def_ 22 rfl
  obtain ⟨fd_Hanging_way, F_Hanging_way⟩ := cd.def_ 23 rfl
  obtain ⟨fd__law_way, F__law_way⟩ := cd.def_ 24 rfl
  obtain ⟨fd__law_with, F__law_with⟩ := cd.def_ 25 rfl
  obtain ⟨fd_Hanging___eq__, F_Hanging___eq__⟩ := cd.def_ 26 rfl
  obtain ⟨fd_law, F_law⟩ := cd.def_ 27 rfl
  have el : f = He.ga K "law" := by have e := hfa.symm.trans gl_law; cases e; rfl
  subst el
  have bl := FunD.bindsA (ps := ["_law_script"]) F_law fun _ _ _ _ _ _ us hl => match us, hl with | [_], _ => rfl
  refine ⟨fd_law, fun s v => bl s [v] rfl, fun base _ _ hTB => ?_⟩
  have X_BadRow : GEx P w K mg base "BadRow" 1 ["name"] := gex1 (d := eD 3 0 "BadRow" "BadRow.__init__" ["name"]) (slf0 := "self") (y := "name") X G (c.toSaysE.err 0 rfl) ht f_super rfl rfl rfl rfl (by decide +kernel) rfl rfl rfl ⟨_, rfl, rfl⟩ (by decide) (by decide) (by decide) (by decide) (fun _ _ _ _ _ _ _ => rfl)
    (fun F f L h1 h2 => by obtain ⟨n, q, ps, b, sc, cl, c⟩ := F; cases h1; cases h2; exact ⟨_, rfl⟩) (fun F f L h1 => by obtain ⟨n, q, ps, b, sc, cl, c⟩ := F; cases h1; rfl) (fun F f L h1 => by obtain ⟨n, q, ps, b, sc, cl, c⟩ := F; cases h1; rfl)
  have X_NoDish : GEx P w K mg base "NoDish" 1 ["name"] := gex1 (d := eD 2 0 "NoDish" "NoDish.__init__" ["name"]) (slf0 := "self") (y := "name") X G (c.toSaysE.err 1 rfl) ht f_super rfl rfl rfl rfl (by decide +kernel) rfl rfl rfl ⟨_, rfl, rfl⟩ (by decide) (by decide) (by decide) (by decide) (fun _ _ _ _ _ _ _ => rfl)
    (fun F f L h1 h2 => by obtain ⟨n, q, ps, b, sc, cl, c⟩ := F; cases h1; cases h2; exact ⟨_, rfl⟩) (fun F f L h1 => by obtain ⟨n, q, ps, b, sc, cl, c⟩ := F; cases h1; rfl) (fun F f L h1 => by obtain ⟨n, q, ps, b, sc, cl, c⟩ := F; cases h1; rfl)
  have X_Round : GEx P w K mg base "Round" 1 ["names"] := gex1 (d := eD 4 0 "Round" "Round.__init__" ["names"]) (slf0 := "self") (y := "names") X G (c.toSaysE.err 2 rfl) ht f_super rfl rfl rfl rfl (by decide +kernel) rfl rfl rfl ⟨_, rfl, rfl⟩ (by decide) (by decide) (by decide) (by decide) (fun _ _ _ _ _ _ _ => rfl)
    (fun F f L h1 h2 => by obtain ⟨n, q, ps, b, sc, cl, c⟩ := F; cases h1; cases h2; exact ⟨_, rfl⟩) (fun F f L h1 => by obtain ⟨n, q, ps, b, sc, cl, c⟩ := F; cases h1; rfl) (fun F f L h1 => by obtain ⟨n, q, ps, b, sc, cl, c⟩ := F; cases h1; rfl)
  have hmore := c.more
  unfold ex at hmore
  obtain ⟨hmore, ht_9⟩ := He.ba hmore
  obtain ⟨hmore, ht_8⟩ := He.ba hmore
  obtain ⟨hmore, ht_7⟩ := He.ba hmore
  obtain ⟨hmore, ht_6⟩ := He.ba hmore
  obtain ⟨hmore, ht_5⟩ := He.ba hmore
  obtain ⟨hmore, ht_4⟩ := He.ba hmore
  obtain ⟨hmore, ht_3⟩ := He.ba hmore
  obtain ⟨hmore, ht_2⟩ := He.ba hmore
  obtain ⟨hmore, ht_1⟩ := He.ba hmore
  have ht_0 := hmore
  have iu_Hanging : IsU K (He.ga K "Hanging") := isUB_ok cl_Hanging ht_3
  have eu_Hanging : EqU K (He.ga K "Hanging") := eqUB_ok ht_4
  have N_Hanging : NeOk K (He.ga K "Hanging") := ⟨of_decide_eq_true ht_8, of_decide_eq_true ht_9⟩
  have TB_law := hTB ("law", none) (by simp [tf])
  have hT_law : ((He.cT K ("law", none)).2, ((envOfC "law" (defScope (top 33)) 0 0 .none).qual ++ "<lambda>")) ∈ TabC.T := by show _ ∈ [((He.cT K ("law", none)).2, ((envOfC "law" (defScope (top 33)) 0 0 .none).qual ++ "<lambda>"))]; simp
  have hU_law : ∀ p ∈ TabC.T, p.1 = (He.cT K ("law", none)).2 → p.2 = ((envOfC "law" (defScope (top 33)) 0 0 .none).qual ++ "<lambda>") := by
    intro p hp e
    have hp : p ∈ [((He.cT K ("law", none)).2, ((envOfC "law" (defScope (top 33)) 0 0 .none).qual ++ "<lambda>"))] := hp
    simp only [List.mem_cons, List.not_mem_nil, or_false] at hp
    rcases hp with hp
    · rw [hp]
  have scu__law_tried : FnScope ["_law_ask", "_law_found", "e"] ["_law_ask"] (defScope (top 32)) := ⟨rfl, rfl, rfl, by decide +kernel, rfl, by decide +kernel, by decide +kernel⟩
  have U__law_tried : GTr P w K mg base "_law_tried" (.told "told") [("NoDish", some 2, .fld "none" "name")] := gtr_of F__law_tried gl__law_tried scu__law_tried (fun _ _ _ _ _ _ us hl => match us, hl with | [_], _ => rfl) rfl (by decide) (by first | exact .inl rfl | exact .inr (.inl rfl) | exact .inr (.inr rfl)) (fun e he e2 he2 => by
      simp only [List.mem_cons, List.not_mem_nil, or_false] at he he2
      rcases he with he <;> rcases he2 with he2 <;> subst he <;> subst he2 <;> first | exact of_decide_eq_true ht_2) (fun cdv Y e1 e2 e3 e4 e5 q => TR.tried_givesT e3 scu__law_tried.nd rfl rfl (by decide) (by intro e he; simp only [hsA, List.map_cons, List.map_nil, List.mem_cons, List.not_mem_nil, or_false] at he; rcases he with he <;> subst he <;> first | trivial | exact ⟨by decide, by decide⟩) (fun s H => .cons ⟨rfl, rfl, .inl (by show Y.mg _ = _; rw [e4]; exact gl_NoDish)⟩ ⟨rfl, rfl⟩ (fun a oe cls d pn hz hf => TR.clause_fld (X := TR.ZX Y ["_law_ask", "_law_found", "e"] "_law_tried" (defScope (top 32)) (He.ga K "_law_tried") cdv s H) (i := 2) (j := 1) scu__law_tried.nd rfl rfl rfl rfl (by show XfC Y.K _; rw [e3]; exact xfB_ok ht_0) (by show PySem.W.findIn Y.K _ _ = _; rw [e3]; exact of_decide_eq_true ht_1) hz hf) (.nil)))
  have G__law_take : GFn P w K mg base "_law_take" k__law_take ["_law_state", "_law_many"] (lift K 2 sp__law_take) := ok_take F__law_take gl__law_take f_len f_abs f_int
  have G__law_mix : GFn P w K mg base "_law_mix" k__law_mix ["_law_state", "_law_things"] (lift K 2 sp__law_mix) := gfn F__law_mix gl__law_mix sc__law_mix (fun _ _ _ _ _ _ us hl => match us, hl with | [_, _], _ => rfl) (d__law_mix (P := P) (w := w) (K := K) (mg := mg) (base := base) (G__law_take := G__law_take) (f_len := f_len) (f_list := f_list)) M__law_mix
  have G__law_names : GFn P w K mg base "_law_names" k__law_names ["_law_state", "_law_many"] (lift K 2 sp__law_names) := gfn F__law_names gl__law_names sc__law_names (fun _ _ _ _ _ _ us hl => match us, hl with | [_, _], _ => rfl) (d__law_names (P := P) (w := w) (K := K) (mg := mg) (base := base) (G__law_mix := G__law_mix)) M__law_names
  have G__law_one : GFn P w K mg base "_law_one" k__law_one ["_law_state", "_law_things"] (lift K 2 sp__law_one) := gfn F__law_one gl__law_one sc__law_one (fun _ _ _ _ _ _ us hl => match us, hl with | [_, _], _ => rfl) (d__law_one (P := P) (w := w) (K := K) (mg := mg) (base := base) (G__law_take := G__law_take) (f_len := f_len)) M__law_one
  have G__law_hung : GFn P w K mg base "_law_hung" k__law_hung ["_law_state", "_law_names_here"] (lift K 2 sp__law_hung) := gfn F__law_hung gl__law_hung sc__law_hung (fun _ _ _ _ _ _ us hl => match us, hl with | [_, _], _ => rfl) (d__law_hung (P := P) (w := w) (K := K) (mg := mg) (base := base) (G__law_mix := G__law_mix) (G__law_one := G__law_one) (f_enumerate := f_enumerate)) M__law_hung
  have G_is_name : GFn P w K mg base "is_name" k_is_name ["thing"] (lift K 1 (FSp.of f_is_name)) := gfn F_is_name gl_is_name sc_is_name (fun _ _ _ _ _ _ us hl => match us, hl with | [_], _ => rfl) (d_is_name (P := P) (w := w) (K := K) (mg := mg) (base := base) (c_CLOCK := c_CLOCK) (c_LETTERS := c_LETTERS) (c_MOST_LETTERS := c_MOST_LETTERS) (f_all := f_all) (f_isinstance := f_isinstance) (f_len := f_len) (f_str := f_str)) meets
  have G_is_anchor : GFn P w K mg base "is_anchor" k_is_anchor ["thing", "names"] (lift K 2 (FSp.of f_is_anchor)) := gfn F_is_anchor gl_is_anchor sc_is_anchor (fun _ _ _ _ _ _ us hl => match us, hl with | [_, _], _ => rfl) (d_is_anchor (P := P) (w := w) (K := K) (mg := mg) (base := base) (c_CLOCK := c_CLOCK) (f_list := f_list)) meets
  have G_rising : GFn P w K mg base "rising" k_rising ["things"] (lift K 1 (FSp.of f_rising)) := gfn F_rising gl_rising sc_rising (fun _ _ _ _ _ _ us hl => match us, hl with | [_], _ => rfl) (d_rising (P := P) (w := w) (K := K) (mg := mg) (base := base) (f_len := f_len)) meets
  have G_way_up : GFn P w K mg base "way_up" k_way_up ["anchors", "name"] (lift K 2 (FSp.of f_way_up)) := gfn F_way_up gl_way_up sc_way_up (fun _ _ _ _ _ _ us hl => match us, hl with | [_, _], _ => rfl) (d_way_up (P := P) (w := w) (K := K) (mg := mg) (base := base) (c_CLOCK := c_CLOCK)) meets
  have G_round_from : GFn P w K mg base "round_from" k_round_from ["anchors", "name"] (lift K 2 (FSp.of f_round_from)) := gfn F_round_from gl_round_from sc_round_from (fun _ _ _ _ _ _ us hl => match us, hl with | [_, _], _ => rfl) (d_round_from (P := P) (w := w) (K := K) (mg := mg) (base := base) ) meets
  have G_check_rounds : GFn P w K mg base "check_rounds" k_check_rounds ["anchors"] (lift K 1 (FSp.of f_check_rounds)) := gfn F_check_rounds gl_check_rounds sc_check_rounds (fun _ _ _ _ _ _ us hl => match us, hl with | [_], _ => rfl) (d_check_rounds (P := P) (w := w) (K := K) (mg := mg) (base := base) (G_rising := G_rising) (G_round_from := G_round_from) (G_way_up := G_way_up) (X_Round := X_Round) (f_list := f_list)) meets
  have KQ_Hanging : GMkQ P w K mg base "Hanging" "Hanging" k_Hanging___init__ ["self", "rows"] (FSp.of f_Hanging___init__) := gmkQ_of gl_Hanging mk_Hanging (F_Hanging___init__.bindsN (fun _ _ _ _ _ _ us hl => match us, hl with | [_, _], _ => rfl)) F_Hanging___init__ sc_Hanging___init__ (Q' := [0]) (by decide) (d_Hanging___init__ (P := P) (w := w) (K := K) (mg := mg) (base := base) (G_check_rounds := G_check_rounds) (G_is_anchor := G_is_anchor) (G_is_name := G_is_name) (G_rising := G_rising) (X_BadRow := X_BadRow) (cl_Hanging := cl_Hanging) (f_list := f_list) (na_Hanging_anchors := na_Hanging_anchors))
  have G__law_rising : GFn P w K mg base "_law_rising" k__law_rising ["_law_things"] (lift K 1 (FSp.of f__law_rising)) := gfn F__law_rising gl__law_rising sc__law_rising (fun _ _ _ _ _ _ us hl => match us, hl with | [_], _ => rfl) (d__law_rising (P := P) (w := w) (K := K) (mg := mg) (base := base) (f_len := f_len)) meets
  have G_Hanging_rows : GMe P w K mg base "Hanging" "rows" k_Hanging_rows ["self"] [] (liftF K 1 (FSp.of f_Hanging_rows)) := ⟨_, _, [], [], cl_Hanging, me_Hanging_rows, F_Hanging_rows.bindsN (fun _ _ _ _ _ _ us hl => match us, hl with | [_], _ => rfl), .nil, fun _ _ _ => RepL.nil, dfnF F_Hanging_rows sc_Hanging_rows (fun cdv A outer s H E hr => (d_Hanging_rows (P := P) (w := w) (K := K) (mg := mg) (base := base) (cl_Hanging := cl_Hanging) (f_dict := f_dict) (na_Hanging_anchors := na_Hanging_anchors)) _ cdv A outer s H E hr) meetsF⟩
  have Z__law_same : ∀ k, GFn P w K mg base "_law_same" (1 + k) ["_law_found", "_law_due"] (lift K 2 (FSp.of (r__law_same k))) := fun k => by
    induction k with
    | zero => exact gfn (m := sNever) (k := 0) (O' := []) F__law_same gl__law_same sc__law_same (fun _ _ _ _ _ _ us hl => match us, hl with | [_, _], _ => rfl) (fun f cdv A outer s H E hr => vss_never) (fun ds n Q xq hl h => by first | exact h.elim | (obtain ⟨_, _, _, z, _⟩ := h; cases z; done) | (obtain ⟨_, _, z, _⟩ := h; cases z; done))
    | succ k ih => exact gfn F__law_same gl__law_same sc__law_same (fun _ _ _ _ _ _ us hl => match us, hl with | [_, _], _ => rfl) (d__law_same (P := P) (w := w) (K := K) (mg := mg) (base := base) (kk := 1 + k) (sf := r__law_same k) (by omega) (G_self := ih) (f_all := f_all) (f_bool := f_bool) (f_int := f_int) (f_isinstance := f_isinstance) (f_len := f_len) (f_list := f_list) (f_tuple := f_tuple) (f_zip := f_zip)) meets
  have G__law_same : GFn P w K mg base "_law_same" k__law_same ["_law_found", "_law_due"] (lift K 2 (FSp.of f__law_same)) := Z__law_same 6
  have G__law_same_dict : GFn P w K mg base "_law_same_dict" k__law_same_dict ["_law_found", "_law_due"] (lift K 2 (FSp.of f__law_same_dict)) := gfn F__law_same_dict gl__law_same_dict sc__law_same_dict (fun _ _ _ _ _ _ us hl => match us, hl with | [_, _], _ => rfl) (d__law_same_dict (P := P) (w := w) (K := K) (mg := mg) (base := base) (G__law_same := G__law_same) (f_all := f_all) (f_dict := f_dict) (f_isinstance := f_isinstance) (f_list := f_list)) meets
  have G_Hanging_dishes : GMe P w K mg base "Hanging" "dishes" k_Hanging_dishes ["self"] [] (liftF K 1 (FSp.of f_Hanging_dishes)) := ⟨_, _, [], [], cl_Hanging, me_Hanging_dishes, F_Hanging_dishes.bindsN (fun _ _ _ _ _ _ us hl => match us, hl with | [_], _ => rfl), .nil, fun _ _ _ => RepL.nil, dfnF F_Hanging_dishes sc_Hanging_dishes (fun cdv A outer s H E hr => (d_Hanging_dishes (P := P) (w := w) (K := K) (mg := mg) (base := base) (cl_Hanging := cl_Hanging) (f_list := f_list) (na_Hanging_anchors := na_Hanging_anchors)) _ cdv A outer s H E hr) meetsF⟩
  have G_Hanging_looks : GMe P w K mg base "Hanging" "looks" k_Hanging_looks ["self"] [] (liftF K 1 (FSp.of f_Hanging_looks)) := ⟨_, _, [], [], cl_Hanging, me_Hanging_looks, F_Hanging_looks.bindsN (fun _ _ _ _ _ _ us hl => match us, hl with | [_], _ => rfl), .nil, fun _ _ _ => RepL.nil, dfnF F_Hanging_looks sc_Hanging_looks (fun cdv A outer s H E hr => (d_Hanging_looks (P := P) (w := w) (K := K) (mg := mg) (base := base) (cl_Hanging := cl_Hanging) (na_Hanging_anchors := na_Hanging_anchors)) _ cdv A outer s H E hr) meetsF⟩
  have It_Hanging : GIt P w K mg base "Hanging" "anchors" k_Hanging___iter__ := git_of ⟨me_Hanging___iter__, of_decide_eq_true ht_5, of_decide_eq_true ht_6⟩ F_Hanging___iter__ (F_Hanging___iter__.bindsN (fun _ _ _ _ _ _ us hl => match us, hl with | [_], _ => rfl)) sc_Hanging___iter__ cl_Hanging na_Hanging_anchors (d_Hanging___iter__ (P := P) (w := w) (K := K) (mg := mg) (base := base) (f_iter := f_iter))
  have G_is_among : GFn P w K mg base "is_among" k_is_among ["thing", "names"] (lift K 2 (FSp.of f_is_among)) := gfn F_is_among gl_is_among sc_is_among (fun _ _ _ _ _ _ us hl => match us, hl with | [_, _], _ => rfl) (d_is_among (P := P) (w := w) (K := K) (mg := mg) (base := base) (f_isinstance := f_isinstance) (f_str := f_str)) meets
  have G_check_dish : GFn P w K mg base "check_dish" k_check_dish ["name", "names"] (lift K 2 (FSp.of f_check_dish)) := gfn F_check_dish gl_check_dish sc_check_dish (fun _ _ _ _ _ _ us hl => match us, hl with | [_, _], _ => rfl) (d_check_dish (P := P) (w := w) (K := K) (mg := mg) (base := base) (G_is_among := G_is_among) (X_NoDish := X_NoDish)) meets
  have G_Hanging_way : GMe P w K mg base "Hanging" "way" k_Hanging_way ["self", "name"] [] (liftF K 2 (FSp.of f_Hanging_way)) := ⟨_, _, [], [], cl_Hanging, me_Hanging_way, F_Hanging_way.bindsN (fun _ _ _ _ _ _ us hl => match us, hl with | [_, _], _ => rfl), .nil, fun _ _ _ => RepL.nil, dfnF F_Hanging_way sc_Hanging_way (fun cdv A outer s H E hr => (d_Hanging_way (P := P) (w := w) (K := K) (mg := mg) (base := base) (G_check_dish := G_check_dish) (G_way_up := G_way_up) (cl_Hanging := cl_Hanging) (na_Hanging_anchors := na_Hanging_anchors)) _ cdv A outer s H E hr) meetsF⟩
  have G__law_way : GFn P w K mg base "_law_way" k__law_way ["_law_rows", "_law_name"] (lift K 2 (FSp.of f__law_way)) := gfn F__law_way gl__law_way sc__law_way (fun _ _ _ _ _ _ us hl => match us, hl with | [_, _], _ => rfl) (d__law_way (P := P) (w := w) (K := K) (mg := mg) (base := base) ) meets
  have G__law_with : GFn P w K mg base "_law_with" k__law_with ["_law_things", "_law_name", "_law_thing"] (lift K 3 (FSp.of f__law_with)) := gfn F__law_with gl__law_with sc__law_with (fun _ _ _ _ _ _ us hl => match us, hl with | [_, _, _], _ => rfl) (d__law_with (P := P) (w := w) (K := K) (mg := mg) (base := base) (f_dict := f_dict)) meets
  have G_Hanging___eq__ : GMe P w K mg base "Hanging" "__eq__" k_Hanging___eq__ ["self", "other"] [] (lift K 2 (FSp.of f_Hanging___eq__)) := ⟨_, _, [], [], cl_Hanging, me_Hanging___eq__, F_Hanging___eq__.bindsN (fun _ _ _ _ _ _ us hl => match us, hl with | [_, _], _ => rfl), .nil, fun _ _ _ => RepL.nil, dfn F_Hanging___eq__ sc_Hanging___eq__ (O' := _) (fun cdv A outer s H E hr => (d_Hanging___eq__ (P := P) (w := w) (K := K) (mg := mg) (base := base) (cl_Hanging := cl_Hanging) (f_isinstance := f_isinstance) (gl_Hanging := gl_Hanging) (iu_Hanging := iu_Hanging) (na_Hanging_anchors := na_Hanging_anchors)) _ cdv A outer s H E hr) meets⟩
  have O_Hanging___eq__ : GOp P w K mg base "Hanging" "__eq__" k_Hanging___eq__ ["self", "other"] (lift K 2 (FSp.of f_Hanging___eq__)) := ⟨_, _, me_Hanging___eq__, ht_7, F_Hanging___eq__.bindsN (fun _ _ _ _ _ _ us hl => match us, hl with | [_, _], _ => rfl), dfn F_Hanging___eq__ sc_Hanging___eq__ (O' := _) (fun cdv A outer s H E hr => (d_Hanging___eq__ (P := P) (w := w) (K := K) (mg := mg) (base := base) (cl_Hanging := cl_Hanging) (f_isinstance := f_isinstance) (gl_Hanging := gl_Hanging) (iu_Hanging := iu_Hanging) (na_Hanging_anchors := na_Hanging_anchors)) _ cdv A outer s H E hr) meets⟩
  obtain ⟨ff, fdf, g1, g2, g3, g4⟩ := ok_fresh (P := P) (w := w) (base := base) F__law_fresh gl__law_fresh f_list
  exact law_topL (p0 := ("law", none)) F_law rfl sc_law (by decide) (fun cdv A outer s H E hr => ps_set (i := 1) sc_law.nd rfl (by first | exact .inl rfl | exact .inr rfl) (pe_call g4 (DL.Room.le hr (by decide)) rfl g1 g2 g3 .nil passT (pa_cons (pv 0) pa_nil))) (d_law (P := P) (w := w) (K := K) (mg := mg) (base := base) TB_law hT_law hU_law (G_Hanging_dishes := G_Hanging_dishes) (G_Hanging_looks := G_Hanging_looks) (G_Hanging_rows := G_Hanging_rows) (G_Hanging_way := G_Hanging_way) (G__law_hung := G__law_hung) (G__law_names := G__law_names) (G__law_rising := G__law_rising) (G__law_same := G__law_same) (G__law_same_dict := G__law_same_dict) (G__law_take := G__law_take) (G__law_way := G__law_way) (G__law_with := G__law_with) (It_Hanging := It_Hanging) (KQ_Hanging := KQ_Hanging) (N_Hanging := N_Hanging) (O_Hanging___eq__ := O_Hanging___eq__) (U__law_tried := U__law_tried) (eu_Hanging := eu_Hanging) (f_dict := f_dict) (f_list := f_list) (f_range := f_range)) M_law
end DL.K06
open PySem PySem.W PySem.Calls PyProof.Rows
theorem PySem.Challenge.cw_cookcalls_k06_hangings_told_holds : PySem.Challenge.rw_cookcalls_k06_hangings_told.Holds := by
  w_on; o_law
  refine HandSHeadRun.head_any (r := OpenLaw.row PySem.Challenge.rw_cookcalls_k06_hangings_told) (q := view (OpenLaw.row PySem.Challenge.rw_cookcalls_k06_hangings_told).prog [33]) (H := DL.K06.hk) (ob := DL.K06.ob) (M := 20000) (loose := DL.K06.loose) (d := HandSHeadRun.topDef (OpenLaw.row PySem.Challenge.rw_cookcalls_k06_hangings_told).prog 33) (kwd := []) DL.K06.ob_eq
    (by kernel_rfl) (fun s => by kernel_rfl) DL.K06.run (by kernel_rfl) (by kernel_rfl) (by kernel_rfl) (by rfl) (by first | assumption | decide +kernel) (by decide +kernel) ⟨rfl, rfl, rfl, rfl, rfl, by decide +kernel⟩ ?hw ?hc
  case hw => w_witness2
  case hc =>
    refine LamX.walk_ofTsE (l := PySem.Challenge.rw_cookcalls_k06_hangings_told) (n := 63) (k := DL.K06.k_law) (x := "_law_script") (CX := fun w => L2.CX (PySem.Challenge.rw_cookcalls_k06_hangings_told).prog w) rfl (by decide) (by kernel_rfl) ⟨rfl, by decide, by decide⟩ ?F (fun w H s e s' h => DL.cx_end H s e s' ⟨_, _, h⟩)
    intro w mg fa h Y G hmg0
    obtain ⟨K, KX, c⟩ := Y
    have hmg : mg ("law" : PySem.Str) = some (.ref fa) := by
      have e : (HandSHeadRun.topDef (OpenLaw.row PySem.Challenge.rw_cookcalls_k06_hangings_told).prog 33).name = ("law" : PySem.Str) := by kernel_rfl
      rw [← e]
      exact hmg0
    obtain ⟨fd, hb, hF⟩ := DL.K06.facts (P := (PySem.Challenge.rw_cookcalls_k06_hangings_told).prog) (w := w) KX G hmg c (by kernel_rfl)
    refine ⟨K, KX, fd, DL.K06.tf.map (He.cT K), DL.K06.spL K w, ?_, ?_, ?_, hb, ?_, fun base h1 h2 h3 => hF base h1 h2 fun p hp => h3 _ (List.mem_map.mpr ⟨p, hp, rfl⟩)⟩
    · intro p hp
      obtain ⟨d, hd, rfl⟩ := List.mem_map.mp hp
      exact c.empty d hd
    · intro p hp
      obtain ⟨d, hd, rfl⟩ := List.mem_map.mp hp
      exact c.out d hd
    · intro p hp
      obtain ⟨d, hd, rfl⟩ := List.mem_map.mp hp
      exact PySem.W.codeHd_of_K KX (c.hd d hd)
    · intro H a ns hl hbits hT hS
      refine ⟨a, ns, rfl, hS, ⟨@DL.tabs_new (DL.K06.tabK K w) _ _ fun p hp => ?_, fun _ _ _ => trivial⟩, fun _ => rfl⟩
      obtain ⟨d, hd, e⟩ := DL.K06.tab_in hp
      rw [e]
      exact hT _ (List.mem_map.mpr ⟨d, hd, rfl⟩)
